import PyProof.Rows.All
import Wide.All
import OpenK.AllK
import Wide.FinOn
import HandS.ForMost
import HandS.Wide
import HandS.Style
import HandS.Flow
import HandS.Conv
import HandS.Star
import HandS.TupAny
import HandS.TupMul
import HandS.IsInst
import HandS.Deep
import HandS.Walk
import HandS.Zip
import HandS.Dict
import HandS.WideBits
import HandS.Lambda
import HandS.TupSets
import HandS.SortRule
import HandS.SortInts
import KE.GoesMore
import KE.GoesEnum
import PyProof.Draws
import HandS.TupLe
import PyProof.RowDictHeap
import HandS.More
import HandS.DictComp
import HandS.WideMore
import HandS.ExcInit
import HandS.ExcField
import HandS.TryOnly
import HandS.ExcOwn
import HandS.ExcCtx
import HandS.HotCalls
import HandS.RaiseMore
import KE.KExcIs
import PySem.Challenge.RW_flutterheld_k04_rows_cell_by_cell
set_option Elab.async false
set_option linter.all false
set_option maxRecDepth 100000
set_option maxHeartbeats 4000000
/-! PF1: a small language of the defs' bodies (IE, IS), its meaning on plain data (runE, runS), and the check that a body of the text is one of it (chkE, chkS). -/
namespace PF
open PySem PySem.Spec PyProof.Rows L2

/-- what a name holds: data that nobody changes; a list of its own; a list lent by the caller, to be changed -/
inductive Sl where
  | v (d : PyData)
  | o (ds : List PyData)
  | b (ds : List PyData)
  | w (kvs : List (PyData × PyData))
def Sl.d : Sl → PyData
  | .v d => d
  | .o ds => .list ds
  | .b ds => .list ds
  | .w kvs => .dict kvs
/-- what an operation may look at -/
def Sl.lk : Sl → Option PyData
  | .v d => some d
  | .o ds => some (.list ds)
  | .b ds => some (.list ds)
  | .w kvs => some (.dict kvs)
abbrev En := List (Option Sl)
/-- the value in hand, or the name that holds it -/
inductive Hd where
  | d (d : PyData)
  | s (i : Nat)
def En.at (env : En) (i : Nat) : Option Sl := (env[i]?).join
def Hd.get (env : En) : Hd → Option PyData
  | .d z => some z
  | .s j => (env.at j).bind Sl.lk
def getL (env : En) : List Hd → Option (List PyData)
  | [] => some []
  | h :: r => (h.get env).bind fun d => (getL env r).bind fun ds => some (d :: ds)
def getD : List Hd → Option (List PyData)
  | [] => some []
  | .d z :: r => (getD r).bind fun ds => some (z :: ds)
  | .s _ :: _ => none
/-- the arguments of a def; one list at most is lent -/
def getA (env : En) : Bool → List Hd → Option (List Sl)
  | _, [] => some []
  | k, .d z :: r => (getA env k r).bind fun ds => some (.v z :: ds)
  | false, .s i :: r => match env.at i with
    | some (.o ds) => (getA env true r).bind fun l => some (.b ds :: l)
    | some (.b ds) => (getA env true r).bind fun l => some (.b ds :: l)
    | _ => none
  | true, .s _ :: _ => none
/-- the name whose list is lent -/
def lentS : List Hd → Option Nat
  | [] => none
  | .d _ :: r => lentS r
  | .s i :: _ => some i
/-- what the def leaves in the lent list -/
def putA (env : En) (hs : List Hd) (l : List PyData) : En :=
  match lentS hs with
  | none => env
  | some i => match env.at i with
    | some (.o _) => env.set i (some (.o l))
    | some (.b _) => env.set i (some (.b l))
    | _ => env

inductive BF where
  | len | abs | int | max2 | min2 | max1 | min1 | sum | all | any | repr | tuple | list | sorted | str | divmod | dict
  deriving DecidableEq
inductive MT where
  | append | pop | insert | extend
  deriving DecidableEq

mutual
inductive IE where
  | k (d : PyData)
  | g (x : Str)
  | x (i : Nat)
  | bin (op : Operator) (a b : IE)
  | neg (a : IE)
  | not (a : IE)
  | and (a b : IE)
  | or (a b : IE)
  | cmp (op : CmpOp) (a b : IE)
  | ch (op op' : CmpOp) (a b c : IE)
  | ife (t : IT) (a b : IE)
  | ix (a b : IE)
  | sl (a : IE) (lo hi : IO)
  | rv (a : IE)
  | tup (es : IL)
  | lst (es : IL)
  | fn (f : BF) (es : IL)
  | isi (a : IE) (t : String)
  | call (f : Nat) (es : IL)
  | lc (own : List (Str × Nat)) (g : IG) (it : II) (c : IT) (e : IE)
  | lcl (own : List (Str × Nat)) (i : Nat) (g : IG) (c : IT) (e : IE)
  | lrg (a : IE)
  | lrg2 (a b : IE)
  | mt (m : MT) (i : Nat) (es : IL)
  | dic (es : IL)
  | dget (i : Nat) (k e : IE)
  | dix (i : Nat) (k : IE)
  | din (n : Bool) (i : Nat) (k : IE)
  | bits (a : IE)
  | lcd (own : List (Str × Nat)) (i : Nat) (g : IG) (c : IT) (e : IE)
  | dcm (own : List (Str × Nat)) (g : IG) (it : II) (c : IT) (k e : IE)
  | act (i f : Nat) (x : Str) (es : IL)
inductive IT where
  | yes
  | e (a : IE)
  | not (a : IT)
  | and (a b : IT)
  | or (a b : IT)
  | ife (t a b : IT)
inductive IL where
  | nil
  | cons (a : IE) (r : IL)
  | star (a : IE) (r : IL)
  | io (i : Nat) (r : IL)
inductive IO where
  | no
  | so (a : IE)
inductive II where
  | e (a : IE)
  | r1 (a : IE)
  | r2 (a b : IE)
  | rd (a b : IE)
  | zip (a b : IE)
  | enum (a : IE)
inductive IG where
  | n (i : Nat)
  | t (gs : IGs)
inductive IGs where
  | nil
  | cons (g : IG) (r : IGs)
end
mutual
inductive IS where
  | set (i : Nat) (e : IE)
  | tgt (gs : IGs) (e : IE)
  | par2 (i j : Nat) (a b : IE)
  | par3 (i j l : Nat) (a b c : IE)
  | parn (is : List Nat) (es : IL)
  | six (i : Nat) (k e : IE)
  | aug (i : Nat) (op : Operator) (e : IE)
  | aix (i : Nat) (k : IE) (op : Operator) (e : IE)
  | ret (e : IE)
  | retx (i : Nat)
  | retn
  | ex (e : IE)
  | cond (t : IT) (a b : IB)
  | «for» (g : IG) (it : II) (b : IB) (ws : List Nat)
  | wh (t : IT) (b : IB) (ws : List Nat)
  | brk
  | cnt
  | pass
  | dput (i : Nat) (k e : IE)
  | nev
inductive IB where
  | nil
  | cons (s : IS) (r : IB)
end

/-! ### operations on data -/
def cutL {α : Type} (xs : List α) (lo hi : Option Int) : List α := (xs.drop (HT.sIx xs.length 0 lo)).take (HT.sIx xs.length xs.length hi - HT.sIx xs.length 0 lo)
def binD (op : Operator) (a b : PyData) : Option Sl :=
  match op, a, b with
  | .Add, .int i, .int j => some (.v (.int (i + j)))
  | .Sub, .int i, .int j => some (.v (.int (i - j)))
  | .Mult, .int i, .int j => if i.natAbs.log2 + j.natAbs.log2 < 1000000 then some (.v (.int (i * j))) else none
  | .FloorDiv, .int i, .int j => if 0 < j ∧ j.natAbs.log2 < 9000 then some (.v (.int (i / j))) else if j ≠ 0 ∧ j.natAbs.log2 < 9000 then some (.v (.int (i.fdiv j))) else none
  | .Mod, .int i, .int j => if 0 < j then some (.v (.int (i % j))) else if j ≠ 0 then some (.v (.int (i.fmod j))) else none
  | .LShift, .int i, .int j => if i = 1 ∧ 0 ≤ j ∧ j.natAbs.log2 < 26 then some (.v (.int (2 ^ j.toNat))) else none
  | .Pow, .int i, .int j => if 0 ≤ j ∧ j ≤ 1000000 ∧ i.natAbs < 2 ^ 64 then some (.v (.int (i ^ j.toNat))) else none
  | .Add, .str x, .str y => if x.length + y.length ≤ sizeLine then some (.v (.str (x ++ y))) else none
  | .Add, .list xs, .list ys => if xs.length + ys.length ≤ sizeLine then some (.o (xs ++ ys)) else none
  | .Add, .tuple xs, .tuple ys => if xs.length + ys.length ≤ sizeLine then some (.v (.tuple (xs ++ ys))) else none
  | .Mult, .list xs, .int k => if k.natAbs.log2 < 62 ∧ xs.length * k.toNat ≤ sizeLine then some (.o (List.replicate k.toNat xs).flatten) else none
  | .Mult, .tuple xs, .int k => if k.natAbs.log2 < 60 ∧ xs.length * k.toNat ≤ 1000000 then some (.v (.tuple (List.replicate k.toNat xs).flatten)) else none
  | _, _, _ => none
def augD (op : Operator) (a b : PyData) : Option PyData :=
  match op, a, b with
  | .Add, .int i, .int j => some (.int (i + j))
  | .Sub, .int i, .int j => some (.int (i - j))
  | .FloorDiv, .int i, .int j => if 0 < j ∧ j.natAbs.log2 < 9000 then some (.int (i / j)) else none
  | .Add, .str x, .str y => if x.length + y.length ≤ sizeLine then some (.str (x ++ y)) else none
  | _, _, _ => none
def truD : PyData → Option Bool
  | .none => some false
  | .bool b => some b
  | .int i => some (i != 0)
  | .str x => if x.length ≤ sizeLine then some (x.length != 0) else none
  | .list xs => some (!xs.isEmpty)
  | .tuple xs => some (!xs.isEmpty)
  | .dict _ => none
def flatD : PyData → Bool
  | .none | .bool _ | .int _ | .str _ => true
  | _ => false
def intsD : List PyData → Option (List Int)
  | [] => some []
  | .int i :: r => (intsD r).bind fun l => some (i :: l)
  | _ :: _ => none
/-- the order of tuples of ints -/
def lexI : List Int → List Int → Bool
  | [], [] => false
  | [], _ :: _ => true
  | _ :: _, [] => false
  | a :: r, b :: s => if a = b then lexI r s else decide (a < b)
/-- a def as data: its name stands where no dict's key is -/
def fnDt (x : Str) : PyData := .dict [(.none, .str x)]
def fnQ : List (PyData × PyData) → Bool
  | [(.none, .str _)] => true
  | _ => false
def isF : PyData → Bool
  | .dict kvs => fnQ kvs
  | _ => false
def cmpD (op : CmpOp) (a b : PyData) : Option Bool :=
  match op with
  | .Eq => if SeqAt.shaped a = true ∧ SeqAt.shaped b = true then some (PyData.eqv a b) else match a, b with
    | .dict ks, .dict [] => if fnQ ks = true then none else some ks.isEmpty
    | .list xs, .list [] => some xs.isEmpty
    | .tuple xs, .tuple [] => some xs.isEmpty
    | .str x, .str y => some (decide (x = y))
    | _, _ => none
  | .NotEq => if SeqAt.shaped a = true ∧ SeqAt.shaped b = true then some (!PyData.eqv a b) else match a, b with
    | .dict ks, .dict [] => if fnQ ks = true then none else some (!ks.isEmpty)
    | .list xs, .list [] => some (!xs.isEmpty)
    | .tuple xs, .tuple [] => some (!xs.isEmpty)
    | .str x, .str y => some (!decide (x = y))
    | _, _ => none
  | .Lt => match a, b with
    | .int i, .int j => some (decide (i < j))
    | .tuple xs, .tuple ys => (intsD xs).bind fun is => (intsD ys).bind fun js => some (lexI is js)
    | _, _ => none
  | .LtE => match a, b with
    | .int i, .int j => some (decide (i ≤ j))
    | _, _ => none
  | .Gt => match a, b with
    | .int i, .int j => some (decide (j < i))
    | _, _ => none
  | .GtE => match a, b with
    | .int i, .int j => some (decide (j ≤ i))
    | _, _ => none
  | .Is => match b with
    | .none => some (match a with
      | .none => true
      | _ => false)
    | .bool y => match a with
      | .bool x => some (decide (x = y))
      | _ => none
    | _ => none
  | .IsNot => match b with
    | .none => some (match a with
      | .none => false
      | _ => true)
    | .bool y => match a with
      | .bool x => some (!decide (x = y))
      | _ => none
    | _ => none
  | .In => match b with
    | .list ds => if SeqAt.shaped a = true ∧ SeqAt.shaped b = true then some (ds.any fun z => PyData.eqv z a) else none
    | .tuple ds => if SeqAt.shaped a = true ∧ SeqAt.shaped b = true then some (ds.any fun z => PyData.eqv z a) else none
    | _ => none
  | .NotIn => match b with
    | .list ds => if SeqAt.shaped a = true ∧ SeqAt.shaped b = true then some (!ds.any fun z => PyData.eqv z a) else none
    | .tuple ds => if SeqAt.shaped a = true ∧ SeqAt.shaped b = true then some (!ds.any fun z => PyData.eqv z a) else none
    | _ => none
def ixD (a b : PyData) : Option PyData :=
  match a, b with
  | .list xs, .int i => atI xs i
  | .tuple xs, .int i => atI xs i
  | .str z, .int i => if z.length ≤ sizeLine then (atI z.cps.toList i).map fun c => .str ⟨#[c]⟩ else none
  | _, _ => none
def slD (a : PyData) (lo hi : Option Int) : Option Sl :=
  match a with
  | .list xs => some (.o (cutL xs lo hi))
  | .tuple xs => some (.v (.tuple (cutL xs lo hi)))
  | _ => none
def rvD (a : PyData) : Option Sl :=
  match a with
  | .list xs => some (.o xs.reverse)
  | .tuple xs => some (.v (.tuple xs.reverse))
  | _ => none
def boolsD : List PyData → Option (List Bool)
  | [] => some []
  | .bool i :: r => (boolsD r).bind fun l => some (i :: l)
  | _ :: _ => none
def maxI : List Int → Option Int
  | [] => none
  | a :: r => some (r.foldl max a)
def minI : List Int → Option Int
  | [] => none
  | a :: r => some (r.foldl min a)
def tupD : PyData → Option (List Int)
  | .tuple ds => intsD ds
  | _ => none
def tupsD : List PyData → Option (List (List Int))
  | [] => some []
  | d :: r => (tupD d).bind fun t => (tupsD r).bind fun l => some (t :: l)
def insS {α : Type} (lt : α → α → Bool) (x : α) : List α → List α
  | [] => [x]
  | y :: r => if lt y x = true then y :: insS lt x r else x :: y :: r
def sortS {α : Type} (lt : α → α → Bool) : List α → List α
  | [] => []
  | x :: r => insS lt x (sortS lt r)
def sortD (xs : List PyData) : Option (List PyData) :=
  match intsD xs with
  | some ns => some ((sortS (fun a b => decide (a < b)) ns).map .int)
  | none => match tupsD xs with
    | some ts => if ts.length ≤ 1 ∨ ts.all (fun t => !t.isEmpty) = true then some ((sortS lexI ts).map fun t => .tuple (t.map .int)) else none
    | none => none
/-! ### dicts -/
def keyD : PyData → Option L2.Key
  | .int i => some (.inl i)
  | .str x => some (.inr x)
  | _ => none
def dlook (kvs : List (PyData × PyData)) (k : L2.Key) : Option PyData :=
  match kvs with
  | [] => none
  | p :: r => if keyD p.1 = some k then some p.2 else dlook r k
def dput (kvs : List (PyData × PyData)) (y : PyData) (k : L2.Key) (v : PyData) : List (PyData × PyData) :=
  if (kvs.any fun p => decide (keyD p.1 = some k)) = true then kvs.map (fun p => if keyD p.1 = some k then (p.1, v) else p) else kvs ++ [(y, v)]
def pairsD : List PyData → Option (List (PyData × PyData))
  | [] => some []
  | k :: v :: r => (keyD k).bind fun _ => (pairsD r).bind fun l => some ((k, v) :: l)
  | _ :: [] => none
def mergeD (kvs more : List (PyData × PyData)) : List (PyData × PyData) := more.foldl (fun acc p => match keyD p.1 with
  | some k => dput acc p.1 k p.2
  | none => acc) kvs
/-- the dict that a name holds -/
def dctAt (env : En) (i : Nat) : Option (List (PyData × PyData)) := match env.at i with
  | some (.w kvs) => some kvs
  | some (.v (.dict kvs)) => if fnQ kvs = true then none else some kvs
  | _ => none
/-- a list of pairs, for dict(..) -/
def prsD : List PyData → Option (List (PyData × PyData))
  | [] => some []
  | .tuple [k, v] :: r => (keyD k).bind fun _ => (prsD r).bind fun l => some ((k, v) :: l)
  | _ :: _ => none

mutual
/-- no list in it -/
def nol : PyData → Bool
  | .list xs => nolA xs
  | .tuple xs => nolA xs
  | .dict kvs => !fnQ kvs && nolK kvs
  | _ => true
def nolA : List PyData → Bool
  | [] => true
  | x :: r => nol x && nolA r
def nolK : List (PyData × PyData) → Bool
  | [] => true
  | (_, e) :: r => nol e && nolK r
end
mutual
/-- no list anywhere -/
def nls : PyData → Bool
  | .list _ => false
  | .tuple xs => nlsA xs
  | .dict kvs => nlsK kvs
  | _ => true
def nlsA : List PyData → Bool
  | [] => true
  | x :: r => nls x && nlsA r
def nlsK : List (PyData × PyData) → Bool
  | [] => true
  | (_, e) :: r => nls e && nlsK r
end
def fnD (f : BF) (ds : List PyData) : Option Sl :=
  match f, ds with
  | .len, [.list xs] => some (.v (.int xs.length))
  | .len, [.tuple xs] => some (.v (.int xs.length))
  | .len, [.str z] => if z.length ≤ sizeLine then some (.v (.int z.length)) else none
  | .abs, [.int i] => some (.v (.int (if i < 0 then -i else i)))
  | .int, [.int i] => some (.v (.int i))
  | .int, [.bool k] => some (.v (.int (if k then 1 else 0)))
  | .max2, [.int i, .int j] => some (.v (.int (if j > i then j else i)))
  | .min2, [.int i, .int j] => some (.v (.int (if j < i then j else i)))
  | .sum, [.list xs] => (intsD xs).bind fun ns => some (.v (.int ns.sum))
  | .repr, [d] => if PyData.showable d = true ∧ d.shown.length ≤ sizeLine ∧ (d.hasDict = false ∨ nol d = true) ∧ PyData.depth d ≤ 60 then some (.v (.str d.shown)) else none
  | .tuple, [.list xs] => some (.v (.tuple xs))
  | .tuple, [.tuple xs] => some (.v (.tuple xs))
  | .list, [.list xs] => some (.o xs)
  | .list, [.tuple xs] => some (.o xs)
  | .sum, [.tuple xs] => (intsD xs).bind fun ns => some (.v (.int ns.sum))
  | .all, [.list xs] => (boolsD xs).bind fun bs => some (.v (.bool (bs.all id)))
  | .any, [.list xs] => (boolsD xs).bind fun bs => some (.v (.bool (bs.any id)))
  | .max1, [.list xs] => (intsD xs).bind fun ns => (maxI ns).bind fun m => some (.v (.int m))
  | .min1, [.list xs] => (intsD xs).bind fun ns => (minI ns).bind fun m => some (.v (.int m))
  | .sorted, [.list xs] => (sortD xs).bind fun ys => some (.o ys)
  | .len, [.dict kvs] => if fnQ kvs = true then none else some (.v (.int kvs.length))
  | .list, [.dict kvs] => if fnQ kvs = true then none else some (.o (kvs.map (·.1)))
  | .sorted, [.dict kvs] => (intsD (kvs.map (·.1))).bind fun ns => if ns.length < 64 then some (.o ((sortS (fun a b => decide (a < b)) ns).map .int)) else none
  | .dict, [.list xs] => (prsD xs).bind fun kvs => some (.w (mergeD [] kvs))
  | .str, [.int i] => if i.natAbs.log2 < 60 then some (.v (.str (toString i))) else none
  | .divmod, [.int i, .int j] => if 0 < j ∧ j.natAbs.log2 < 29 then some (.v (.tuple [.int (i / j), .int (i % j)])) else none
  | _, _ => none
def tyD : PyData → String
  | .none => "NoneType"
  | .bool _ => "bool"
  | .int _ => "int"
  | .str _ => "str"
  | .list _ => "list"
  | .tuple _ => "tuple"
  | .dict _ => "dict"
def isiD (d : PyData) (t : String) : Bool := decide (tyD d = t) || (decide (tyD d = "bool") && decide (t = "int"))
def mtD (m : MT) (xs ds : List PyData) : Option (PyData × List PyData) :=
  match m, ds with
  | .append, [d] => if xs.length < sizeLine then some (.none, xs ++ [d]) else none
  | .pop, [] => (xs[xs.length - 1]?).bind fun d => some (d, xs.dropLast)
  | .insert, [.int i, d] => if 0 ≤ i ∧ i ≤ xs.length ∧ xs.length < sizeLine then some (.none, xs.take i.toNat ++ d :: xs.drop i.toNat) else none
  | .extend, [.list ys] => if xs.length + ys.length ≤ sizeLine then some (.none, xs ++ ys) else none
  | _, _ => none
def rngD (lo : Int) (n : Nat) : List PyData := (List.range n).map fun (i : Nat) => .int (lo + i)
def dwnD (hi : Int) (n : Nat) : List PyData := (List.range n).map fun (i : Nat) => .int (hi + (i : Int) * -1)
def rngO (i j : Int) : Option (List PyData) := if i.natAbs.log2 < 61 ∧ j.natAbs.log2 < 61 then some (rngD i (j - i).toNat) else none
def dwnO (i j : Int) : Option (List PyData) := if i.natAbs.log2 < 61 ∧ j.natAbs.log2 < 61 then some (dwnD i (i - j).toNat) else none
def lrgO (i j : Int) : Option (List PyData) := if i.natAbs.log2 < 61 ∧ j.natAbs.log2 < 61 ∧ (j - i).toNat ≤ 2 ^ 24 then some (rngD i (j - i).toNat) else none
def zipD : List PyData → List PyData → List PyData
  | a :: r, b :: s => .tuple [a, b] :: zipD r s
  | _, _ => []
def enumD : Nat → List PyData → List PyData
  | _, [] => []
  | i, a :: r => .tuple [.int i, a] :: enumD (i + 1) r

/-! ### targets -/
def En.put (env : En) (i : Nat) (s : Sl) : Option En :=
  match env.at i with
  | some (.b _) => none
  | _ => some (env.set i (some s))
mutual
def runG : IG → PyData → En → Option En
  | .n i, d, env => env.put i (.v d)
  | .t gs, d, env => match d with
    | .tuple ds => runGs gs ds env
    | _ => none
def runGs : IGs → List PyData → En → Option En
  | .nil, [], env => some env
  | .cons g r, d :: ds, env => (runG g d env).bind fun env' => runGs r ds env'
  | _, _, _ => none
end

/-! ### expressions -/
abbrev RE := Option (Sl × En)
def hd (e : IE) (r : RE) (env : En) : Option (Hd × En) :=
  match e with
  | .x i => if (env.at i).isSome then some (.s i, env) else none
  | _ => r.bind fun p => some (.d p.1.d, p.2)
def useI (env : En) (i : Nat) : RE :=
  match env.at i with
  | some (.v d) => some (.v d, env)
  | some (.o ds) => some (.v (.list ds), env.set i (some (.v (.list ds))))
  | some (.w kvs) => some (.v (.dict kvs), env.set i (some (.v (.dict kvs))))
  | _ => none
def mutAt (env : En) (i : Nat) : Bool := match env.at i with
  | some (.o _) => true
  | some (.b _) => true
  | _ => false
def noOwn (env : En) : List (Str × Nat) → Bool
  | [] => true
  | p :: r => (match env.at p.2 with
    | some (.o _) => false
    | some (.b _) => false
    | some (.w _) => false
    | _ => true) && noOwn env r
/-- the list that a name may change; the same behind the change -/
def atS (env : En) (i : Nat) : Option (List PyData) := match env.at i with
  | some (.o xs) => some xs
  | some (.b xs) => some xs
  | _ => none
def setS (env : En) (i : Nat) (xs : List PyData) : Option En := match env.at i with
  | some (.o _) => some (env.set i (some (.o xs)))
  | some (.b _) => some (env.set i (some (.b xs)))
  | _ => none
/-- the keys of the dict that stands in a name, data -/
def keysAt (env : En) (i : Nat) : Option (List PyData) := match env.at i with
  | some (.v (.dict kvs)) => if fnQ kvs = true then none else some (kvs.map (·.1))
  | _ => none
mutual
def eqP : PyData → PyData → Bool
  | .none, .none => true
  | .bool a, .bool b => a == b
  | .int a, .int b => decide (a = b)
  | .str a, .str b => decide (a = b)
  | .list a, .list b => eqPs a b
  | .tuple a, .tuple b => eqPs a b
  | _, _ => false
def eqPs : List PyData → List PyData → Bool
  | [], [] => true
  | a :: r, b :: s => eqP a b && eqPs r s
  | _, _ => false
end
def sameL (env : En) (i : Nat) (ds : List PyData) : Bool := match atS env i with
  | some es => eqPs es ds
  | none => false
def wipeS (env : En) : List Nat → En
  | [] => env
  | i :: r => (wipeS env r).set i none
def wipeE (env : En) : List (Str × Nat) → En
  | [] => env
  | p :: r => (wipeE env r).set p.2 none
/-- behind a comprehension its own names are what they were -/
def backE (env0 env : En) : List (Str × Nat) → En
  | [] => env
  | p :: r => (backE env0 env r).set p.2 ((env0[p.2]?).join)
def compD (turn : PyData → En → Option (Option PyData × En)) : List PyData → En → Option (List PyData × En)
  | [], env => some ([], env)
  | d :: ds, env => (turn d env).bind fun p => (compD turn ds p.2).bind fun q => match p.1 with
    | some y => some (y :: q.1, q.2)
    | none => some q
def un1 (h : Option (Hd × En)) (f : PyData → Option Sl) : RE := h.bind fun p => (p.1.get p.2).bind fun d => (f d).bind fun r => some (r, p.2)
def tr1 (h : Option (Hd × En)) : Option (Bool × En) := h.bind fun p => (p.1.get p.2).bind fun d => (truD d).bind fun r => some (r, p.2)
abbrev Tab := Nat → List Sl → Option (Sl × List PyData)

/-- the name holds this def -/
def fnAt (env : En) (i : Nat) (x : Str) : Bool := match env.at i with
  | some (.v (.dict [(.none, .str y)])) => decide (y = x)
  | _ => false
mutual
def runE (Γ : Tab) (C : List (Str × PyData)) : IE → En → RE
  | .k d, env => some (.v d, env)
  | .g x, env => (C.lookup x).bind fun d => some (.v d, env)
  | .x i, env => useI env i
  | .bin op a b, env => (hd a (runE Γ C a env) env).bind fun p => (hd b (runE Γ C b p.2) p.2).bind fun q =>
      (p.1.get q.2).bind fun x => (q.1.get q.2).bind fun y => (binD op x y).bind fun r => some (r, q.2)
  | .neg a, env => un1 (hd a (runE Γ C a env) env) fun d => match d with
      | .int i => some (.v (.int (-i)))
      | _ => none
  | .not a, env => un1 (hd a (runE Γ C a env) env) fun d => (truD d).bind fun b => some (.v (.bool !b))
  | .and a b, env => (runE Γ C a env).bind fun p => (truD p.1.d).bind fun t => if t = true then runE Γ C b p.2 else some (.v p.1.d, p.2)
  | .or a b, env => (runE Γ C a env).bind fun p => (truD p.1.d).bind fun t => if t = true then some (.v p.1.d, p.2) else runE Γ C b p.2
  | .cmp op a b, env => (hd a (runE Γ C a env) env).bind fun p => (hd b (runE Γ C b p.2) p.2).bind fun q =>
      (p.1.get q.2).bind fun x => (q.1.get q.2).bind fun y => (cmpD op x y).bind fun r => some (.v (.bool r), q.2)
  | .ch op op' a b c, env => (hd a (runE Γ C a env) env).bind fun p => (hd b (runE Γ C b p.2) p.2).bind fun q =>
      (p.1.get q.2).bind fun x => (q.1.get q.2).bind fun y => (cmpD op x y).bind fun r => if r = true then
        (hd c (runE Γ C c q.2) q.2).bind fun w => (q.1.get w.2).bind fun y' => (w.1.get w.2).bind fun z => (cmpD op' y' z).bind fun r' => some (.v (.bool r'), w.2)
      else some (.v (.bool false), q.2)
  | .ife t a b, env => (runT Γ C t env).bind fun p => if p.1 = true then runE Γ C a p.2 else runE Γ C b p.2
  | .ix a b, env => (hd a (runE Γ C a env) env).bind fun p => (hd b (runE Γ C b p.2) p.2).bind fun q =>
      (p.1.get q.2).bind fun x => (q.1.get q.2).bind fun y => (ixD x y).bind fun r => some (.v r, q.2)
  | .sl a lo hi, env => (hd a (runE Γ C a env) env).bind fun p => (runO Γ C lo p.2).bind fun q => (runO Γ C hi q.2).bind fun w =>
      (p.1.get w.2).bind fun x => (slD x q.1 w.1).bind fun r => some (r, w.2)
  | .rv a, env => un1 (hd a (runE Γ C a env) env) rvD
  | .tup es, env => (runV Γ C es env).bind fun p => (getD p.1).bind fun ds => if ds.length ≤ sizeLine then some (.v (.tuple ds), p.2) else none
  | .lst es, env => (runV Γ C es env).bind fun p => (getD p.1).bind fun ds => if ds.length ≤ sizeLine then some (.o ds, p.2) else none
  | .fn f es, env => (runL Γ C es env).bind fun p => (getL p.2 p.1).bind fun ds => (fnD f ds).bind fun r => some (r, p.2)
  | .isi a t, env => un1 (hd a (runE Γ C a env) env) fun d => if isF d = true then none else some (.v (.bool (isiD d t)))
  | .call f es, env => (runV Γ C es env).bind fun p => (getA p.2 false p.1).bind fun as => (Γ f as).bind fun r => some (r.1, putA p.2 p.1 r.2)
  | .act i f x es, env => if fnAt env i x = true then (runV Γ C es env).bind fun p => (getA p.2 false p.1).bind fun as => (Γ f as).bind fun r => some (r.1, putA p.2 p.1 r.2) else none
  | .lc own g it c e, env => (runI Γ C it env).bind fun p => if noOwn p.2 own = true then
      (compD (fun d en => (runG g d en).bind fun en1 => (runT Γ C c en1).bind fun t => if t.1 = true then (runE Γ C e t.2).bind fun y => some (some y.1.d, wipeE y.2 own) else some (none, wipeE t.2 own)) p.1 (wipeE p.2 own)).bind fun q =>
        if q.1.length ≤ sizeLine then some (.o q.1, backE p.2 q.2 own) else none
      else none
  | .lcl own i g c e, env => (atS env i).bind fun ds => if noOwn env own = true ∧ (own.all fun p => !decide (p.2 = i)) = true then
      (compD (fun d en => if sameL en i ds = true then (runG g d en).bind fun en1 => (runT Γ C c en1).bind fun t => if t.1 = true then (runE Γ C e t.2).bind fun y => some (some y.1.d, wipeE y.2 own) else some (none, wipeE t.2 own) else none) ds (wipeE env own)).bind fun q =>
        if sameL q.2 i ds = true ∧ q.1.length ≤ sizeLine then some (.o q.1, backE env q.2 own) else none
      else none
  | .lrg a, env => (hd a (runE Γ C a env) env).bind fun p => (p.1.get p.2).bind fun d => match d with
      | .int j => (lrgO 0 j).bind fun ds => some (.o ds, p.2)
      | _ => none
  | .lrg2 a b, env => (hd a (runE Γ C a env) env).bind fun p => (hd b (runE Γ C b p.2) p.2).bind fun q =>
      (p.1.get q.2).bind fun x => (q.1.get q.2).bind fun y => match x, y with
      | .int i, .int j => (lrgO i j).bind fun ds => some (.o ds, q.2)
      | _, _ => none
  | .mt m i es, env => if mutAt env i = true then (runV Γ C es env).bind fun p => (getD p.1).bind fun ds => match p.2.at i with
      | some (.o xs) => (mtD m xs ds).bind fun r => some (.v r.1, p.2.set i (some (.o r.2)))
      | some (.b xs) => (mtD m xs ds).bind fun r => some (.v r.1, p.2.set i (some (.b r.2)))
      | _ => none
    else none
  | .dic es, env => (runV Γ C es env).bind fun p => (getD p.1).bind fun ds => (pairsD ds).bind fun kvs => if kvs.length ≤ 15 then some (.w (mergeD [] kvs), p.2) else none
  | .dget i k e, env => (dctAt env i).bind fun _ => (hd k (runE Γ C k env) env).bind fun p => (runE Γ C e p.2).bind fun q => (p.1.get q.2).bind fun y => (keyD y).bind fun z => (dctAt q.2 i).bind fun kvs =>
      some (.v ((dlook kvs z).getD q.1.d), q.2)
  | .dix i k, env => (dctAt env i).bind fun _ => (hd k (runE Γ C k env) env).bind fun p => (p.1.get p.2).bind fun y => (keyD y).bind fun z => (dctAt p.2 i).bind fun kvs => (dlook kvs z).bind fun d => some (.v d, p.2)
  | .din n i k, env => (hd k (runE Γ C k env) env).bind fun p => (p.1.get p.2).bind fun y => (keyD y).bind fun z => (dctAt p.2 i).bind fun kvs => some (.v (.bool (xor n (dlook kvs z).isSome)), p.2)
  | .bits a, env => un1 (hd a (runE Γ C a env) env) fun d => match d with
      | .int i => some (.v (.int (Builtin.Int.intBits i : Nat)))
      | _ => none
  | .lcd own i g c e, env => (keysAt env i).bind fun ds => if noOwn env own = true then
      (compD (fun d en => (runG g d en).bind fun en1 => (runT Γ C c en1).bind fun t => if t.1 = true then (runE Γ C e t.2).bind fun y => some (some y.1.d, wipeE y.2 own) else some (none, wipeE t.2 own)) ds (wipeE env own)).bind fun q =>
        if q.1.length ≤ sizeLine then some (.o q.1, backE env q.2 own) else none
      else none
  | .dcm own g it c k e, env => (runI Γ C it env).bind fun p => if noOwn p.2 own = true then
      (compD (fun d en => (runG g d en).bind fun en1 => (runT Γ C c en1).bind fun t => if t.1 = true then (runE Γ C k t.2).bind fun x => (runE Γ C e x.2).bind fun y => (keyD x.1.d).bind fun _ => some (some (.tuple [x.1.d, y.1.d]), wipeE y.2 own) else some (none, wipeE t.2 own)) p.1 (wipeE p.2 own)).bind fun q =>
        if q.1.length ≤ sizeLine then (prsD q.1).bind fun kvs => some (.w (mergeD [] kvs), backE p.2 q.2 own) else none
      else none
def runT (Γ : Tab) (C : List (Str × PyData)) : IT → En → Option (Bool × En)
  | .yes, env => some (true, env)
  | .e a, env => tr1 (hd a (runE Γ C a env) env)
  | .not a, env => (runT Γ C a env).bind fun p => some (!p.1, p.2)
  | .and a b, env => (runT Γ C a env).bind fun p => if p.1 = true then runT Γ C b p.2 else some (false, p.2)
  | .or a b, env => (runT Γ C a env).bind fun p => if p.1 = true then some (true, p.2) else runT Γ C b p.2
  | .ife t a b, env => (runT Γ C t env).bind fun p => if p.1 = true then runT Γ C a p.2 else runT Γ C b p.2
def runL (Γ : Tab) (C : List (Str × PyData)) : IL → En → Option (List Hd × En)
  | .nil, env => some ([], env)
  | .cons a r, env => (hd a (runE Γ C a env) env).bind fun p => (runL Γ C r p.2).bind fun q => some (p.1 :: q.1, q.2)
  | .star _ _, _ => none
  | .io _ _, _ => none
def runV (Γ : Tab) (C : List (Str × PyData)) : IL → En → Option (List Hd × En)
  | .nil, env => some ([], env)
  | .cons a r, env => (runE Γ C a env).bind fun p => (runV Γ C r p.2).bind fun q => some (.d p.1.d :: q.1, q.2)
  | .star a r, env => (runE Γ C a env).bind fun p => match p.1.d with
      | .list ds => (runV Γ C r p.2).bind fun q => some (ds.map Hd.d ++ q.1, q.2)
      | .tuple ds => (runV Γ C r p.2).bind fun q => some (ds.map Hd.d ++ q.1, q.2)
      | _ => none
  | .io i r, env => if (env.at i).isSome then (runV Γ C r env).bind fun q => some (.s i :: q.1, q.2) else none
def runR (Γ : Tab) (C : List (Str × PyData)) : IL → En → Option (List Sl × En)
  | .nil, env => some ([], env)
  | .cons a r, env => (runE Γ C a env).bind fun p => (runR Γ C r p.2).bind fun q => some (p.1 :: q.1, q.2)
  | .star _ _, _ => none
  | .io _ _, _ => none
def runO (Γ : Tab) (C : List (Str × PyData)) : IO → En → Option (Option Int × En)
  | .no, env => some (none, env)
  | .so a, env => (hd a (runE Γ C a env) env).bind fun p => (p.1.get p.2).bind fun d => match d with
      | .int i => some (some i, p.2)
      | _ => none
def runI (Γ : Tab) (C : List (Str × PyData)) : II → En → Option (List PyData × En)
  | .e a, env => (runE Γ C a env).bind fun p => match p.1.d with
      | .list ds => some (ds, p.2)
      | .tuple ds => some (ds, p.2)
      | _ => none
  | .r1 a, env => (hd a (runE Γ C a env) env).bind fun p => (p.1.get p.2).bind fun d => match d with
      | .int j => (rngO 0 j).bind fun ds => some (ds, p.2)
      | _ => none
  | .r2 a b, env => (hd a (runE Γ C a env) env).bind fun p => (hd b (runE Γ C b p.2) p.2).bind fun q =>
      (p.1.get q.2).bind fun x => (q.1.get q.2).bind fun y => match x, y with
      | .int i, .int j => (rngO i j).bind fun ds => some (ds, q.2)
      | _, _ => none
  | .rd a b, env => (hd a (runE Γ C a env) env).bind fun p => (hd b (runE Γ C b p.2) p.2).bind fun q =>
      (p.1.get q.2).bind fun x => (q.1.get q.2).bind fun y => match x, y with
      | .int i, .int j => (dwnO i j).bind fun ds => some (ds, q.2)
      | _, _ => none
  | .zip a b, env => (runE Γ C a env).bind fun p => (runE Γ C b p.2).bind fun q => match p.1.d, q.1.d with
      | .list xs, .list ys => some (zipD xs ys, q.2)
      | .tuple xs, .tuple ys => some (zipD xs ys, q.2)
      | _, _ => none
  | .enum a, env => (runE Γ C a env).bind fun p => match p.1.d with
      | .list ds => some (enumD 0 ds, p.2)
      | .tuple ds => some (enumD 0 ds, p.2)
      | _ => none
end

/-! ### statements -/
inductive Fl where
  | nx (env : En)
  | bk (env : En)
  | ct (env : En)
  | rt (r : Sl) (env : En)
/-- behind a turn the names that no later line reads are forgotten -/
def wipF (ws : List Nat) : Fl → Fl
  | .nx e => .nx (wipeS e ws)
  | .bk e => .bk (wipeS e ws)
  | .ct e => .ct (wipeS e ws)
  | .rt r e => .rt r e
def forD (body : PyData → En → Option Fl) : List PyData → En → Option Fl
  | [], env => some (.nx env)
  | d :: ds, env => (body d env).bind fun f => match f with
    | .nx e => forD body ds e
    | .ct e => forD body ds e
    | .bk e => some (.nx e)
    | .rt r e => some (.rt r e)
def whileD (c : En → Option (Bool × En)) (body : En → Option Fl) : Nat → En → Option Fl
  | 0, _ => none
  | n + 1, env => (c env).bind fun p => if p.1 = true then (body p.2).bind fun f => match f with
    | .nx e => whileD c body n e
    | .ct e => whileD c body n e
    | .bk e => some (.nx e)
    | .rt r e => some (.rt r e)
    else some (.nx p.2)
/-- several names take several values -/
def putN : List Nat → List Sl → En → Option En
  | [], [], env => some env
  | i :: is, s :: ss, env => (env.put i s).bind fun e => putN is ss e
  | _, _, _ => none
mutual
def runS (Γ : Tab) (C : List (Str × PyData)) (F : Nat) : IS → En → Option Fl
  | .set i e, env => (runE Γ C e env).bind fun p => (p.2.put i p.1).bind fun env' => some (.nx env')
  | .tgt gs e, env => (runE Γ C e env).bind fun p => match p.1.d with
      | .tuple ds => (runGs gs ds p.2).bind fun env' => some (.nx env')
      | _ => none
  | .par2 i j a b, env => (runE Γ C a env).bind fun p => (runE Γ C b p.2).bind fun q => (q.2.put i p.1).bind fun e1 => (e1.put j q.1).bind fun e2 => some (.nx e2)
  | .par3 i j l a b c, env => (runE Γ C a env).bind fun p => (runE Γ C b p.2).bind fun q => (runE Γ C c q.2).bind fun w =>
      (w.2.put i p.1).bind fun e1 => (e1.put j q.1).bind fun e2 => (e2.put l w.1).bind fun e3 => some (.nx e3)
  | .parn is es, env => (runR Γ C es env).bind fun p => (putN is p.1 p.2).bind fun e => some (.nx e)
  | .six i k e, env => (runE Γ C e env).bind fun p => if mutAt p.2 i = true then (hd k (runE Γ C k p.2) p.2).bind fun q => (q.1.get q.2).bind fun y => match y with
      | .int z => (atS q.2 i).bind fun xs => (ixN xs.length z).bind fun j => (setS q.2 i (xs.set j p.1.d)).bind fun env' => some (.nx env')
      | _ => none
    else none
  | .aug i op e, env => (hd e (runE Γ C e env) env).bind fun p => match env.at i with
      | some (.v x) => (p.1.get p.2).bind fun y => (augD op x y).bind fun d => (p.2.put i (.v d)).bind fun env' => some (.nx env')
      | _ => none
  | .aix i k op e, env => if mutAt env i = true then (hd k (runE Γ C k env) env).bind fun p => (p.1.get p.2).bind fun y => match y with
      | .int z => (atS p.2 i).bind fun xs => (ixN xs.length z).bind fun j => (xs[j]?).bind fun old => (hd e (runE Γ C e p.2) p.2).bind fun q => (q.1.get q.2).bind fun w => (augD op old w).bind fun d =>
          (atS q.2 i).bind fun ys => (ixN ys.length z).bind fun j' => (setS q.2 i (ys.set j' d)).bind fun env' => some (.nx env')
      | _ => none
    else none
  | .ret e, env => (runE Γ C e env).bind fun p => some (.rt p.1 p.2)
  | .retx i, env => match env.at i with
      | some (.o ds) => some (.rt (.o ds) (env.set i none))
      | some (.w kvs) => some (.rt (.w kvs) (env.set i none))
      | some (.v d) => some (.rt (.v d) env)
      | _ => none
  | .retn, env => some (.rt (.v .none) env)
  | .ex e, env => (runE Γ C e env).bind fun p => some (.nx p.2)
  | .cond t a b, env => (runT Γ C t env).bind fun p => if p.1 = true then runB Γ C F a p.2 else runB Γ C F b p.2
  | .for g it b ws, env => (runI Γ C it env).bind fun p => forD (fun d en => (runG g d en).bind fun en1 => (runB Γ C F b en1).bind fun f => some (wipF ws f)) p.1 (wipeS p.2 ws)
  | .wh t b ws, env => whileD (fun en => runT Γ C t en) (fun en => (runB Γ C F b en).bind fun f => some (wipF ws f)) F (wipeS env ws)
  | .brk, env => some (.bk env)
  | .cnt, env => some (.ct env)
  | .pass, env => some (.nx env)
  | .dput i k e, env => (runE Γ C e env).bind fun p => (dctAt p.2 i).bind fun _ => (hd k (runE Γ C k p.2) p.2).bind fun q => (q.1.get q.2).bind fun y => (keyD y).bind fun z => match q.2.at i with
      | some (.w kvs) => if kvs.length < sizeLine then some (.nx (q.2.set i (some (.w (dput kvs y z p.1.d))))) else none
      | _ => none
  | .nev, _ => none
def runB (Γ : Tab) (C : List (Str × PyData)) (F : Nat) : IB → En → Option Fl
  | .nil, env => some (.nx env)
  | .cons s r, env => (runS Γ C F s env).bind fun f => match f with
    | .nx e => runB Γ C F r e
    | .bk e => some (.bk e)
    | .ct e => some (.ct e)
    | .rt x e => some (.rt x e)
end

/-! ### a def -/
/-- an own error class over base, with one field -/
structure Xc where
  name : Str
  base : Str
  fld : Str
  deriving DecidableEq
/-- where a def raises: behind pre, if t, cls(e) -/
structure Rx where
  pre : IB
  t : IT
  cls : Xc
  e : IE
/-- what an except suite returns: a constant; alike(error.fld, e) -/
inductive Hx where
  | k (d : PyData)
  | alk (i f : Nat) (e : IE)
  | ga (j : Nat) (m : Int) (i f : Nat) (e : IE)
/-- a def that is a try of a call, one except clause, and a return of a constant -/
structure Tf where
  f : Nat
  es : IL
  cls : Xc
  suite : Hx
  ret : PyData
  more : Option (Nat × IB) := none
/-- a def that ends with: return g(lambda t: e), g looking for the first int of which that tells -/
structure Ft where
  pre : IB
  g : Nat
  t : Nat
  e : IE
structure Fn where
  name : Str
  ps : List Str
  N : List Str
  body : IB
  rx : Option Rx := none
  tr : Option Tf := none
  alk : Bool := false
  ft : Option Ft := none
  hand : Bool := false
  thaw : Bool := false
def isB : Sl → Bool
  | .b _ => true
  | _ => false
/-- what stands in the lent slot behind the run -/
def outA : List Sl → En → Option (List PyData)
  | [], _ => some []
  | .v _ :: r, env => outA r env.tail
  | .o _ :: _, _ => none
  | .w _ :: _, _ => none
  | .b _ :: r, env => match (env.head?).join with
    | some (.b ds) => some ds
    | _ => none
def startE (n : Nat) (as : List Sl) : En := as.map some ++ List.replicate (n - as.length) none
def runFn (Γ : Tab) (C : List (Str × PyData)) (F : Nat) (f : Fn) (as : List Sl) : Option (Sl × List PyData) :=
  if as.length = f.ps.length then (runB Γ C F f.body (startE f.N.length as)).bind fun fl => match fl with
    | .nx env => (outA as env).bind fun l => some (.v .none, l)
    | .rt r env => (outA as env).bind fun l => some (r, l)
    | _ => none
  else none
def plainAs : List Sl → Bool
  | [] => true
  | .v _ :: r => plainAs r
  | _ :: _ => false
abbrev TabX := Nat → List Sl → Option (Xc × PyData)
/-- what a def raises -/
def runXD (Γ : Tab) (C : List (Str × PyData)) (F : Nat) (f : Fn) (as : List Sl) : Option (Xc × PyData) :=
  match f.rx with
  | none => none
  | some x => if as.length = f.ps.length ∧ plainAs as = true then (runB Γ C F x.pre (startE f.N.length as)).bind fun fl => match fl with
    | .nx env => (runT Γ C x.t env).bind fun p => if p.1 = true then (runE Γ C x.e p.2).bind fun q => some (x.cls, q.1.d) else none
    | _ => none
    else none
/-- the suite's value: a constant, or whether the field is alike a name's int, a constant int -/
def alkI (d : PyData) : Option PyData → Option PyData
  | some (.int j) => match d with
    | .int i => if i = j ∧ i.natAbs.log2 < 1000 then some (.bool true) else none
    | _ => none
  | _ => none
def runH (d : PyData) (env : En) : Hx → Option PyData
  | .k z => some z
  | .alk i _ (.x j) => if i = j then none else alkI d (match env.at j with
    | some (.v z) => some z
    | _ => none)
  | .alk _ _ (.k z) => alkI d (some z)
  | .alk _ _ _ => none
  | .ga _ _ _ _ _ => none
/-- a name's int is greater, the field alike, the error a ValueError -/
def runG2 (d : PyData) (env : En) : Hx → Option PyData
  | .ga j m i g e => match env.at j with
    | some (.v (.int n)) => if m < n ∧ ¬ i = j then runH d env (.alk i g e) else none
    | _ => none
  | h => runH d env h
/-- behind the call: its result in a name, and what follows -/
def runMo (Γ : Tab) (C : List (Str × PyData)) (F : Nat) (env : En) (r : Sl) (i : Nat) (b : IB) : Option (Sl × List PyData) :=
  (env.put i r).bind fun e1 => (runB Γ C F b e1).bind fun fl => match fl with
    | .nx _ => some (.v .none, [])
    | .rt r _ => some (r, [])
    | _ => none
def runTD (Γ : Tab) (Γx : TabX) (C : List (Str × PyData)) (F : Nat) (f : Fn) (t : Tf) (as : List Sl) : Option (Sl × List PyData) :=
  if as.length = f.ps.length ∧ plainAs as = true then (runV Γ C t.es (startE f.N.length as)).bind fun p => (getD p.1).bind fun ds =>
    match Γx t.f (ds.map .v) with
    | some (c, d) => if c = t.cls then (runG2 d p.2 t.suite).bind fun z => some (.v z, []) else none
    | none => (Γ t.f (ds.map .v)).bind fun q => match t.more with
      | none => some (.v t.ret, [])
      | some x => runMo Γ C F p.2 q.1 x.1 x.2
  else none
/-- the first int from 1 on of which p tells, by doubling and halving -/
def upD (p : Int → Option Bool) : Nat → Int → Option Int
  | 0, _ => none
  | n + 1, h => (p h).bind fun b => if b = true then some h else if (2 : Int).natAbs.log2 + h.natAbs.log2 < 1000000 then upD p n (2 * h) else none
def downD (p : Int → Option Bool) : Nat → Int → Int → Option Int
  | 0, _, _ => none
  | n + 1, l, h => if 1 < h - l then (p ((l + h) / 2)).bind fun b => if b = true then downD p n l ((l + h) / 2) else downD p n ((l + h) / 2) h else some h
def firstD (p : Int → Option Bool) (F : Nat) : Option Int := (upD p F 1).bind fun h => downD p F (h / 2) h
/-- no name holds a thing of its own -/
def allV : En → Bool
  | [] => true
  | none :: r => allV r
  | some (.v _) :: r => allV r
  | some _ :: _ => false
/-- what the lambda tells of n, made where env stands -/
def lamP (Γ : Tab) (C : List (Str × PyData)) (x : Ft) (env : En) (n : Int) : Option Bool :=
  (env.put x.t (.v (.int n))).bind fun e1 => (runE Γ C x.e e1).bind fun q => match q.1 with
    | .v (.bool b) => some b
    | _ => none
def runFT (Γ : Tab) (C : List (Str × PyData)) (F : Nat) (f : Fn) (x : Ft) (as : List Sl) : Option (Sl × List PyData) :=
  if as.length = f.ps.length ∧ plainAs as = true then (runB Γ C F x.pre (startE f.N.length as)).bind fun fl => match fl with
    | .rt (.v d) _ => some (.v d, [])
    | .nx env => if allV env = true then (firstD (lamP Γ C x env) F).bind fun n => some (.v (.int n), []) else none
    | _ => none
  else none
/-- a list that a def hands out is new, where nothing that it was given holds a list -/
def thwD (as : List Sl) : Option (Sl × List PyData) → Option (Sl × List PyData)
  | some (.v (.list ds), l) => if plainAs as = true ∧ (as.all fun s => nls s.d) = true ∧ nlsA ds = true then some (.o ds, l) else none
  | r => r
/-- what the defs return and what they raise -/
def runPX (C : List (Str × PyData)) (F : Nat) (fs : List Fn) : Nat → Tab × TabX
  | 0 => (fun _ _ => none, fun _ _ => none)
  | n + 1 => (fun f as => (fs[f]?).bind fun fn => match fn.tr with
      | none => (match fn.ft with
        | none => if fn.thaw = true then thwD as (runFn (runPX C F fs n).1 C F fn as) else runFn (runPX C F fs n).1 C F fn as
        | some x => runFT (runPX C F fs n).1 C F fn x as)
      | some t => runTD (runPX C F fs n).1 (runPX C F fs n).2 C F fn t as,
    fun f as => if n < 2 then none else (fs[f]?).bind fun fn => runXD (runPX C F fs n).1 C F fn as)
def runP (C : List (Str × PyData)) (F : Nat) (fs : List Fn) (n : Nat) : Tab := (runPX C F fs n).1
def runX (C : List (Str × PyData)) (F : Nat) (fs : List Fn) (n : Nat) : TabX := (runPX C F fs n).2
end PF

/-! PF2: how the names' data stand in the abstract heap (Rel), how it grows (Ext), what a result is (RV). -/
namespace PF
open PySem PySem.Spec PyProof.Rows L2
/-- a list that is read: tracked, known, or one of the module's own, plain -/
def RdL (K : PySem.W.Frag) (H : Hp) (p : Addr) (vs : List V) : Prop :=
  Rd H p (.lst vs) ∨ ∃ (its : List Value) (n : Nat), K.lookup p = some { cls := .type "list", data := .seq its.toArray n } ∧ Vals vs its ∧ vs.length ≤ sizeLine
theorem RdL.sql {K : PySem.W.Frag} {H : Hp} {p : Addr} {vs : List V} (h : RdL K H p vs) : SqL K H p vs := by
  rcases h with h | ⟨its, n, h, r, z⟩
  · exact .inl h
  · refine .inr ⟨_, its.toArray, n, h, rfl, rfl, rfl, ?_, by simpa using r⟩
    rw [List.size_toArray, ← r.length]
    exact z
mutual
/-- data as it stands in the heap -/
inductive Dq (K : PySem.W.Frag) (H : Hp) : V → PyData → Prop
  | non : Dq K H .non .none
  | bl (k : Bool) : Dq K H (.bl k) (.bool k)
  | int (n : Int) : Dq K H (.int n) (.int n)
  | str (z : Str) : Dq K H (.str z) (.str z)
  | lst {p : Addr} {vs : List V} {es : List PyData} : RdL K H p vs → DqAll K H vs es → Dq K H (.ref p) (.list es)
  | tup {p : Addr} {vs : List V} {es : List PyData} : SqT K H p vs → DqAll K H vs es → Dq K H (.ref p) (.tuple es)
  | dct {p : Addr} {ps : List (L2.Key × V)} {es : List (PyData × PyData)} : Rd H p (.dK ps) → DqKV K H ps es → Dq K H (.ref p) (.dict es)
  | fnc {f : Addr} {x : Str} : PySem.W.nsIn K mainGlobals x = some (some (.ref f)) → Dq K H (.ref f) (fnDt x)
inductive DqAll (K : PySem.W.Frag) (H : Hp) : List V → List PyData → Prop
  | nil : DqAll K H [] []
  | cons {x : V} {r : List V} {e : PyData} {es : List PyData} : Dq K H x e → DqAll K H r es → DqAll K H (x :: r) (e :: es)
/-- a dict's entries -/
inductive DqKV (K : PySem.W.Frag) (H : Hp) : List (L2.Key × V) → List (PyData × PyData) → Prop
  | nil : DqKV K H [] []
  | cons {k : L2.Key} {x : V} {r : List (L2.Key × V)} {y e : PyData} {es : List (PyData × PyData)} : keyD y = some k → Dq K H x e → DqKV K H r es → DqKV K H ((k, x) :: r) ((y, e) :: es)
end
section
variable {K : PySem.W.Frag}
mutual
theorem Dq.dp {H : Hp} : ∀ (d : PyData) {x : V}, d.hasDict = false → Dq K H x d → Dp K H x d
  | .none, _, _, h => by
    cases h
    exact .non
  | .bool k, _, _, h => by
    cases h
    exact .bl k
  | .int n, _, _, h => by
    cases h
    exact .int n
  | .str z, _, _, h => by
    cases h
    exact .str z
  | .list ds, _, z, h => by
    cases h with
    | lst h1 h2 => exact .lst h1.sql (DqAll.dp ds (by simpa [PyData.hasDict] using z) h2)
  | .tuple ds, _, z, h => by
    cases h with
    | tup h1 h2 => exact .tup h1 (DqAll.dp ds (by simpa [PyData.hasDict] using z) h2)
  | .dict _, _, z, h => by simp [PyData.hasDict] at z
theorem DqAll.dp {H : Hp} : ∀ (ds : List PyData) {xs : List V}, PyData.hasDictAll ds = false → DqAll K H xs ds → DpAll K H xs ds
  | [], _, _, h => by
    cases h
    exact .nil
  | d :: ds, _, z, h => by
    cases h with
    | cons h1 h2 =>
      have z' : d.hasDict = false ∧ PyData.hasDictAll ds = false := by simpa [PyData.hasDictAll] using z
      exact .cons (Dq.dp d z'.1 h1) (DqAll.dp ds z'.2 h2)
end
theorem rdMono {H H' : Hp} {a : Addr} {o : HO} (e : Same H H') (h : Rd H a o) : Rd H' a o := by
  rcases h with h | ⟨u, h⟩
  · exact .inl (e _ _ h)
  · exact .inr ⟨u, e _ _ h⟩

theorem rdlMono {H H' : Hp} {a : Addr} {vs : List V} (e : Same H H') (h : RdL K H a vs) : RdL K H' a vs := h.imp_left (rdMono e)
theorem sqtMono {H H' : Hp} {a : Addr} {xs : List V} (e : Same H H') (h : SqT K H a xs) : SqT K H' a xs := by
  rcases h with (h | ⟨o, h⟩) | h
  · exact .inl (.inl (e _ _ h))
  · exact .inl (.inr ⟨o, e _ _ h⟩)
  · exact .inr h
mutual
theorem dpMono {H H' : Hp} (s : Same H H') : ∀ (d : PyData) {v : V}, Dq K H v d → Dq K H' v d
  | .none, _, h => by
    cases h
    exact .non
  | .bool b, _, h => by
    cases h
    exact .bl b
  | .int i, _, h => by
    cases h
    exact .int i
  | .str x, _, h => by
    cases h
    exact .str x
  | .list ds, _, h => by
    cases h with
    | lst h1 h2 => exact .lst (rdlMono s h1) (dpAllMono s ds h2)
  | .tuple ds, _, h => by
    cases h with
    | tup h1 h2 => exact .tup (sqtMono s h1) (dpAllMono s ds h2)
  | .dict es, _, h => by
    cases h with
    | dct h1 h2 => exact .dct (rdMono s h1) (dpKVMono s es h2)
    | fnc h1 => exact .fnc h1
theorem dpAllMono {H H' : Hp} (s : Same H H') : ∀ (ds : List PyData) {vs : List V}, DqAll K H vs ds → DqAll K H' vs ds
  | [], _, h => by
    cases h
    exact .nil
  | d :: ds, _, h => by
    cases h with
    | cons h1 h2 => exact .cons (dpMono s d h1) (dpAllMono s ds h2)
theorem dpKVMono {H H' : Hp} (s : Same H H') : ∀ (es : List (PyData × PyData)) {ps : List (L2.Key × V)}, DqKV K H ps es → DqKV K H' ps es
  | [], _, h => by
    cases h
    exact .nil
  | (_, e) :: es, _, h => by
    cases h with
    | cons h0 h1 h2 => exact .cons h0 (dpMono s e h1) (dpKVMono s es h2)
end
theorem dpAll_len {H : Hp} : ∀ {vs : List V} {ds : List PyData}, DqAll K H vs ds → vs.length = ds.length
  | _, [], h => by
    cases h
    rfl
  | _, d :: ds, h => by
    cases h with
    | cons _ h2 => rw [List.length_cons, List.length_cons, dpAll_len h2]
theorem dpAll_get {H : Hp} : ∀ {vs : List V} {ds : List PyData} {i : Nat} {d : PyData}, DqAll K H vs ds → ds[i]? = some d → ∃ v, vs[i]? = some v ∧ Dq K H v d
  | _, [], i, d, h, e => by simp at e
  | _, x :: ds, 0, d, h, e => by
    cases h with
    | cons h1 h2 =>
      have e' : x = d := Option.some.inj e
      subst e'
      exact ⟨_, rfl, h1⟩
  | _, x :: ds, i + 1, d, h, e => by
    cases h with
    | cons h1 h2 =>
      obtain ⟨v, a, b⟩ := dpAll_get (i := i) h2 (by simpa using e)
      exact ⟨v, by simpa using a, b⟩
theorem dpAll_get' {H : Hp} {vs : List V} {ds : List PyData} {i : Nat} {v : V} (h : DqAll K H vs ds) (e : vs[i]? = some v) : ∃ d, ds[i]? = some d ∧ Dq K H v d := by
  have hl := dpAll_len h
  obtain ⟨hi, _⟩ := List.getElem?_eq_some_iff.mp e
  have hi' : i < ds.length := by omega
  obtain ⟨w, e2, q⟩ := dpAll_get h (List.getElem?_eq_getElem hi')
  rw [e] at e2
  cases e2
  exact ⟨_, List.getElem?_eq_getElem hi', q⟩
theorem dpAll_app {H : Hp} : ∀ {vs ws : List V} {ds es : List PyData}, DqAll K H vs ds → DqAll K H ws es → DqAll K H (vs ++ ws) (ds ++ es)
  | _, _, [], _, h, h' => by
    cases h
    exact h'
  | _, _, d :: ds, _, h, h' => by
    cases h with
    | cons h1 h2 => exact .cons h1 (dpAll_app h2 h')
theorem dpAll_drop {H : Hp} : ∀ {vs : List V} {ds : List PyData} (n : Nat), DqAll K H vs ds → DqAll K H (vs.drop n) (ds.drop n)
  | _, _, 0, h => h
  | _, [], n + 1, h => by
    cases h
    exact .nil
  | _, d :: ds, n + 1, h => by
    cases h with
    | cons h1 h2 => exact dpAll_drop n h2
theorem dpAll_take {H : Hp} : ∀ {vs : List V} {ds : List PyData} (n : Nat), DqAll K H vs ds → DqAll K H (vs.take n) (ds.take n)
  | _, _, 0, h => .nil
  | _, [], n + 1, h => by
    cases h
    exact .nil
  | _, d :: ds, n + 1, h => by
    cases h with
    | cons h1 h2 => exact .cons h1 (dpAll_take n h2)
theorem dpAll_rev {H : Hp} : ∀ {vs : List V} {ds : List PyData}, DqAll K H vs ds → DqAll K H vs.reverse ds.reverse
  | _, [], h => by
    cases h
    exact .nil
  | _, d :: ds, h => by
    cases h with
    | cons h1 h2 =>
      rw [List.reverse_cons, List.reverse_cons]
      exact dpAll_app (dpAll_rev h2) (.cons h1 .nil)
theorem dpAll_set {H : Hp} {v : V} {d : PyData} (q : Dq K H v d) : ∀ {vs : List V} {ds : List PyData} (i : Nat), DqAll K H vs ds → DqAll K H (vs.set i v) (ds.set i d)
  | _, [], i, h => by
    cases h
    exact .nil
  | _, x :: ds, 0, h => by
    cases h with
    | cons h1 h2 => exact .cons q h2
  | _, x :: ds, i + 1, h => by
    cases h with
    | cons h1 h2 => exact .cons h1 (dpAll_set q i h2)
theorem dpAll_dropLast {H : Hp} {vs : List V} {ds : List PyData} (h : DqAll K H vs ds) : DqAll K H vs.dropLast ds.dropLast := by
  rw [List.dropLast_eq_take, List.dropLast_eq_take, dpAll_len h]
  exact dpAll_take _ h
theorem dpAll_cut {H : Hp} {vs : List V} {ds : List PyData} (lo hi : Option Int) (h : DqAll K H vs ds) : DqAll K H (cutV vs lo hi) (cutL ds lo hi) := by
  unfold cutV cutL
  rw [dpAll_len h]
  exact dpAll_take _ (dpAll_drop _ h)

/-! ### names and heap -/
/-- what a thing of a name's own holds -/
inductive Ob where
  | l (ds : List PyData)
  | d (kvs : List (PyData × PyData))
def Sl.m : Sl → Option Ob
  | .v _ => none
  | .o ds => some (.l ds)
  | .b ds => some (.l ds)
  | .w kvs => some (.d kvs)
def ObR (K : PySem.W.Frag) (F : Hp) : HO → Ob → Prop
  | .lst vs, .l ds => DqAll K F vs ds
  | .dK ps, .d kvs => DqKV K F ps kvs
  | _, _ => False
theorem ObR.mono {K : PySem.W.Frag} {F F' : Hp} (m : Same F F') {u : HO} {c : Ob} (h : ObR K F u c) : ObR K F' u c := by
  cases c with
  | l ds =>
    cases u with
    | lst vs => exact dpAllMono m ds h
    | _ => exact False.elim h
  | d kvs =>
    cases u with
    | dK vs => exact dpKVMono m kvs h
    | _ => exact False.elim h
theorem ObR.lst {K : PySem.W.Frag} {F : Hp} {u : HO} {ds : List PyData} (h : ObR K F u (.l ds)) : ∃ vs, u = .lst vs ∧ DqAll K F vs ds := by
  cases u with
  | lst vs => exact ⟨vs, rfl, h⟩
  | _ => exact False.elim h
theorem ObR.dct {K : PySem.W.Frag} {F : Hp} {u : HO} {ds : List (PyData × PyData)} (h : ObR K F u (.d ds)) : ∃ vs, u = .dK vs ∧ DqKV K F vs ds := by
  cases u with
  | dK vs => exact ⟨vs, rfl, h⟩
  | _ => exact False.elim h
theorem at_set (env : En) (i : Nat) (s : Option Sl) (j : Nat) : En.at (env.set i s) j = if i = j ∧ i < env.length then s else env.at j := by
  unfold En.at
  rw [List.getElem?_set]
  by_cases h : i = j
  · subst h
    by_cases hl : i < env.length
    · rw [if_pos rfl, if_pos hl, if_pos ⟨rfl, hl⟩]
      rfl
    · rw [if_pos rfl, if_neg hl, if_neg (fun z => hl z.2), List.getElem?_eq_none (by omega)]
  · rw [if_neg h, if_neg (fun z => h z.1)]
theorem at_lt {env : En} {i : Nat} {s : Sl} (h : env.at i = some s) : i < env.length := by
  unfold En.at at h
  cases e : env[i]? with
  | none =>
    rw [e] at h
    cases h
  | some x => exact (List.getElem?_eq_some_iff.mp e).1
theorem st_get {σ : L2.St} {i j : Nat} {x : Option V} : (σ.set i x)[j]? = if i = j then (if i < σ.length then some x else none) else σ[j]? := List.getElem?_set

/-- no table of code objects -/
def NT (o : HO) : Prop := ∀ ps, o ≠ .tbl ps
theorem NT.lst {vs : List V} : NT (.lst vs) := fun _ z => by cases z
theorem NT.dK {ks : List (L2.Key × V)} : NT (.dK ks) := fun _ z => by cases z
theorem NT.frz {o : Obj} {u : HO} : NT (.frz o u) := fun _ z => by cases z
/-- the defs whose bodies make a lambda -/
def lamNames : List Str := ["turn", "least_lead_that"]
/-- the tables of their code objects, and the names that their lambdas bear -/
def TN (K : PySem.W.Frag) (P : Addr) (q : Str) : Prop := ∃ x c, x ∈ lamNames ∧ PySem.W.tabIn K x = some (c, P) ∧ q = x ++ (".<locals>." : Str) ++ ("<lambda>" : Str)
/-- no list was frozen -/
def NFS (H H' : Hp) : Prop := ∀ b o vs, H' b = some (.frz o (.lst vs)) → H b = some (.frz o (.lst vs))
/-- no frozen list -/
def NL (o : HO) : Prop := ∀ b vs, o ≠ .frz b (.lst vs)
theorem NL.lst {vs : List V} : NL (.lst vs) := fun _ _ z => by cases z
theorem NL.tup {vs : List V} : NL (.tup vs) := fun _ _ z => by cases z
theorem NL.dK {vs : List (L2.Key × V)} : NL (.dK vs) := fun _ _ z => by cases z
theorem NL.fdK {o : Obj} {vs : List (L2.Key × V)} : NL (.frz o (.dK vs)) := fun _ _ z => by cases z
theorem NFS.refl (H : Hp) : NFS H H := fun _ _ _ h => h
theorem NFS.trans {H H1 H2 : Hp} (a : NFS H H1) (b : NFS H1 H2) : NFS H H2 := fun c o vs h => a c o vs (b c o vs h)
theorem NFS.upd {H : Hp} {p : Addr} {o : HO} (n : NL o) : NFS H (L2.upd H p o) := fun b x vs e => by
  by_cases hb : b = p
  · subst hb
    rw [upd_same] at e
    exact absurd (Option.some.inj e) (n x vs)
  · rw [upd_ne hb] at e
    exact e
/-- what the tables bear stays, and no list was frozen -/
def Tm (K : PySem.W.Frag) (H H' : Hp) : Prop := (∀ P q, TN K P q → LamX.TabS H P q → LamX.TabS H' P q) ∧ NFS H H'
theorem Tm.refl {K : PySem.W.Frag} (H : Hp) : Tm K H H := ⟨fun _ _ _ h => h, .refl H⟩
theorem Tm.trans {K : PySem.W.Frag} {H H1 H2 : Hp} (a : Tm K H H1) (b : Tm K H1 H2) : Tm K H H2 := ⟨fun P q n h => b.1 P q n (a.1 P q n h), a.2.trans b.2⟩
theorem Tm.same {K : PySem.W.Frag} {H H' : Hp} (h : Same H H') (n : NFS H H') : Tm K H H' := ⟨fun _ _ _ t => t.ext h, n⟩
/-- nothing but data stands there -/
def Da (H : Hp) (p : Addr) : Prop := ∀ u, H p = some u → NT u ∧ ∀ c q, u ≠ LamX.CodeO c q
theorem Da.no {H : Hp} {p : Addr} (h : H p = none) : Da H p := fun u e => by
  rw [h] at e
  cases e
theorem Da.of {H : Hp} {p : Addr} {o : HO} (h : H p = some o) (d : (∃ vs, o = .lst vs) ∨ (∃ ks, o = .dK ks) ∨ ∃ b u, o = .frz b u) : Da H p := fun u e => by
  rw [h] at e
  cases e
  rcases d with ⟨vs, rfl⟩ | ⟨ks, rfl⟩ | ⟨b, u, rfl⟩
  · exact ⟨NT.lst, fun c q z => by
      unfold LamX.CodeO at z
      cases z⟩
  · exact ⟨NT.dK, fun c q z => by
      unfold LamX.CodeO at z
      cases z⟩
  · exact ⟨NT.frz, fun c q z => by
      unfold LamX.CodeO at z
      cases z⟩
theorem Tm.upd {K : PySem.W.Frag} {H : Hp} {p : Addr} {o : HO} (h : Da H p) (nl : NL o := by first | exact NL.lst | exact NL.tup | exact NL.dK | exact NL.fdK | (intro _ _ z; cases z) | (intro _ _ z; unfold LamX.CodeO at z; cases z)) : Tm K H (L2.upd H p o) := ⟨fun P q _ ⟨ps, h1, h2, h3⟩ => by
  have n1 : P ≠ p := by
    rintro rfl
    exact (h _ h1).1 ps rfl
  refine ⟨ps, by rw [upd_ne n1]; exact h1, h2, fun pos cv hc => ?_⟩
  obtain ⟨c, e1, e2⟩ := h3 pos cv hc
  refine ⟨c, e1, ?_⟩
  rw [upd_ne]
  · exact e2
  · rintro rfl
    exact (h _ e2).2 _ _ rfl, .upd nl⟩
theorem ObR.da {K : PySem.W.Frag} {F H : Hp} {u : HO} {c : Ob} {p : Addr} (h : H p = some u) (q : ObR K F u c) : Da H p := by
  cases c with
  | l ds =>
    obtain ⟨vs, rfl, _⟩ := q.lst
    exact .of h (.inl ⟨vs, rfl⟩)
  | d kvs =>
    obtain ⟨vs, rfl, _⟩ := q.dct
    exact .of h (.inr (.inl ⟨vs, rfl⟩))
theorem ObR.nt {K : PySem.W.Frag} {F : Hp} {u : HO} {c : Ob} (q : ObR K F u c) : NT u := by
  cases c with
  | l ds =>
    obtain ⟨vs, rfl, _⟩ := q.lst
    exact NT.lst
  | d kvs =>
    obtain ⟨vs, rfl, _⟩ := q.dct
    exact NT.dK
theorem ObR.nl {K : PySem.W.Frag} {F : Hp} {u : HO} {c : Ob} (q : ObR K F u c) : NL u := by
  cases c with
  | l ds =>
    obtain ⟨vs, rfl, _⟩ := q.lst
    exact NL.lst
  | d kvs =>
    obtain ⟨vs, rfl, _⟩ := q.dct
    exact NL.dK
def TabsN (K : PySem.W.Frag) (H : Hp) : Prop := ∀ P q, TN K P q → LamX.TabS H P q
theorem TabsN.tm {K : PySem.W.Frag} {H H' : Hp} (h : TabsN K H) (t : Tm K H H') : TabsN K H' := fun P q z => t.1 P q z (h P q z)
theorem TabsN.ne {K : PySem.W.Frag} {H : Hp} (h : TabsN K H) {P : Addr} {q : Str} (z : TN K P q) : H P ≠ none := by
  obtain ⟨ps, e, _⟩ := h P q z
  rw [e]
  simp
/-- the entry: its heaps, which name holds which lent list -/
structure Gh where
  H0 : Hp
  F0 : Hp
  B : Nat → Addr → Prop
/-- the tables, and that none of them is data -/
def TabE (K : PySem.W.Frag) (G : Gh) (H : Hp) : Prop := TabsN K H ∧ ∀ P q, TN K P q → G.F0 P = none ∧ G.H0 P ≠ none
def TabF (K : PySem.W.Frag) (F H : Hp) : Prop := TabsN K H ∧ ∀ P q, TN K P q → F P = none
theorem TabE.tm {K : PySem.W.Frag} {G : Gh} {H H' : Hp} (h : TabE K G H) (t : Tm K H H') : TabE K G H' := ⟨h.1.tm t, h.2⟩
theorem TabF.start {K : PySem.W.Frag} {F H : Hp} (h : TabF K F H) {B : Nat → Addr → Prop} : TabE K ⟨H, F, B⟩ H := ⟨h.1, fun P q z => ⟨h.2 P q z, h.1.ne z⟩⟩
def Own (σ : L2.St) (env : En) (p : Addr) : Prop := ∃ i s ds, env.at i = some s ∧ s.m = some ds ∧ σ[i]? = some (some (.ref p))
structure Rel (K : PySem.W.Frag) (G : Gh) (σ : L2.St) (H F : Hp) (env : En) : Prop where
  len : env.length = σ.length
  sub : Same F H
  base : Same G.F0 F
  fro : ∀ b o, G.H0 b = some o → NT o → (∀ i, ¬ G.B i b) → H b = some o
  live : ∀ b, G.H0 b ≠ none → H b ≠ none
  new : ∀ b, F b ≠ none → G.F0 b ≠ none ∨ G.H0 b = none
  val : ∀ i d, env.at i = some (.v d) → ∃ v, σ[i]? = some (some v) ∧ Dq K F v d
  mug : ∀ i s c, env.at i = some s → s.m = some c → ∃ p u, σ[i]? = some (some (.ref p)) ∧ F p = none ∧ H p = some u ∧ ObR K F u c ∧ (isB s = false → G.H0 p = none) ∧ (isB s = true → G.B i p)
  apart : ∀ i j p, i ≠ j → (∃ s ds, env.at i = some s ∧ s.m = some ds) → (∃ s ds, env.at j = some s ∧ s.m = some ds) → σ[i]? = some (some (.ref p)) → σ[j]? = some (some (.ref p)) → False
  tabs : Tm K G.H0 H
  ent : TabE K G H
theorem Rel.entF {K : PySem.W.Frag} {G : Gh} {σ : L2.St} {H F : Hp} {env : En} (R : Rel K G σ H F env) : TabF K F H := ⟨R.ent.1, fun P q z => by
  cases e : F P with
  | none => rfl
  | some o =>
    rcases R.new P (by rw [e]; simp) with y | y
    · exact absurd (R.ent.2 P q z).1 y
    · exact absurd y (R.ent.2 P q z).2⟩
theorem Rel.mu {K : PySem.W.Frag} {G : Gh} {σ : L2.St} {H F : Hp} {env : En} (R : Rel K G σ H F env) (i : Nat) (s : Sl) (ds : List PyData) (h : env.at i = some s) (hm : s.m = some (.l ds)) :
    ∃ p vs, σ[i]? = some (some (.ref p)) ∧ F p = none ∧ H p = some (.lst vs) ∧ DqAll K F vs ds ∧ (isB s = false → G.H0 p = none) ∧ (isB s = true → G.B i p) := by
  obtain ⟨p, u, a, f, hp, q, b1, b2⟩ := R.mug i s _ h hm
  obtain ⟨vs, rfl, q⟩ := q.lst
  exact ⟨p, vs, a, f, hp, q, b1, b2⟩
theorem Rel.muD {K : PySem.W.Frag} {G : Gh} {σ : L2.St} {H F : Hp} {env : En} (R : Rel K G σ H F env) (i : Nat) (s : Sl) (ds : List (PyData × PyData)) (h : env.at i = some s) (hm : s.m = some (.d ds)) :
    ∃ p vs, σ[i]? = some (some (.ref p)) ∧ F p = none ∧ H p = some (.dK vs) ∧ DqKV K F vs ds ∧ (isB s = false → G.H0 p = none) ∧ (isB s = true → G.B i p) := by
  obtain ⟨p, u, a, f, hp, q, b1, b2⟩ := R.mug i s _ h hm
  obtain ⟨vs, rfl, q⟩ := q.dct
  exact ⟨p, vs, a, f, hp, q, b1, b2⟩
structure Ext (K : PySem.W.Frag) (σ : L2.St) (env : En) (H F H' F' : Hp) (env' : En) : Prop where
  mono : Same F F'
  keep : ∀ b o, H b = some o → NT o → ¬ Own σ env b → H' b = some o
  live : ∀ b, H b ≠ none → H' b ≠ none
  fresh : ∀ b, F' b ≠ none → F b ≠ none ∨ H b = none ∨ Own σ env b
  own : ∀ b, Own σ env' b → Own σ env b
  tabs : Tm K H H'
/-- a result -/
def RV (K : PySem.W.Frag) (H H' F' : Hp) (v : V) : Sl → Prop
  | .v d => Dq K F' v d
  | .o ds => ∃ p vs, v = .ref p ∧ H p = none ∧ F' p = none ∧ H' p = some (.lst vs) ∧ DqAll K F' vs ds
  | .b _ => False
  | .w kvs => ∃ p vs, v = .ref p ∧ H p = none ∧ F' p = none ∧ H' p = some (.dK vs) ∧ DqKV K F' vs kvs
theorem Ext.refl {σ : L2.St} {env : En} {H F : Hp} : Ext K σ env H F H F env :=
  ⟨Same.refl _, fun _ _ h _ _ => h, fun _ h => h, fun _ h => .inl h, fun _ h => h, Tm.refl _⟩
theorem Ext.trans {σ : L2.St} {env env1 env2 : En} {H F H1 F1 H2 F2 : Hp} (a : Ext K σ env H F H1 F1 env1) (b : Ext K σ env1 H1 F1 H2 F2 env2) : Ext K σ env H F H2 F2 env2 := by
  refine ⟨a.mono.trans b.mono, fun c o h t n => b.keep c o (a.keep c o h t n) t fun z => n (a.own c z), fun c h => b.live c (a.live c h), fun c h => ?_, fun c h => a.own c (b.own c h), a.tabs.trans b.tabs⟩
  rcases b.fresh c h with z | z | z
  · exact a.fresh c z
  · refine .inr (.inl ?_)
    cases e : H c with
    | none => rfl
    | some o => exact absurd z (a.live c (by rw [e]; simp))
  · exact .inr (.inr (a.own c z))
variable {G : Gh} {σ : L2.St} {H F H' F' : Hp} {env env' : En}
theorem Rel.ownAt (R : Rel K G σ H F env) {p : Addr} (h : Own σ env p) : H p ≠ none ∧ F p = none := by
  obtain ⟨i, s, ds, e, m, g⟩ := h
  obtain ⟨q, vs, g', f, h, _⟩ := R.mug i s ds e m
  rw [g] at g'
  cases g'
  exact ⟨by rw [h]; simp, f⟩
/-- new things, nothing else changed but tables -/
theorem Rel.growT (R : Rel K G σ H F env) (m : Same F F') (sub : Same F' H') (hh : ∀ b o, H b = some o → NT o → H' b = some o) (lv : ∀ b, H b ≠ none → H' b ≠ none) (fr : ∀ b, F' b ≠ none → F b ≠ none ∨ H b = none) (tm : Tm K H H') : Rel K G σ H' F' env ∧ Ext K σ env H F H' F' env := by
  refine ⟨⟨R.len, sub, R.base.trans m, fun b o h t n => hh b o (R.fro b o h t n) t, fun b h => lv b (R.live b h), fun b h => ?_, fun i d h => ?_, fun i s ds h hm => ?_, R.apart, R.tabs.trans tm, R.ent.tm tm⟩, m, fun b o h t _ => hh b o h t, lv, fun b h => ?_, fun _ h => h, tm⟩
  · rcases fr b h with z | z
    · exact R.new b z
    · refine .inr ?_
      cases e : G.H0 b with
      | none => rfl
      | some o => exact absurd z (R.live b (by rw [e]; simp))
  · obtain ⟨v, a, q⟩ := R.val i d h
    exact ⟨v, a, dpMono m d q⟩
  · obtain ⟨p, vs, a, f, hp, q, b1, b2⟩ := R.mug i s ds h hm
    refine ⟨p, vs, a, ?_, hh p _ hp q.nt, q.mono m, b1, b2⟩
    cases e : F' p with
    | none => rfl
    | some o =>
      rcases fr p (by rw [e]; simp) with z | z
      · exact absurd f z
      · rw [hp] at z
        cases z
  · rcases fr b h with z | z
    · exact .inl z
    · exact .inr (.inl z)
/-- new things, nothing else changed -/
theorem Rel.grow (R : Rel K G σ H F env) (m : Same F F') (sub : Same F' H') (hh : Same H H') (nf : NFS H H') (fr : ∀ b, F' b ≠ none → F b ≠ none ∨ H b = none) : Rel K G σ H' F' env ∧ Ext K σ env H F H' F' env :=
  R.growT m sub (fun b o h _ => hh b o h) (fun b h => by
    cases e : H b with
    | none => exact absurd e h
    | some o =>
      rw [hh b o e]
      simp) fr (Tm.same hh nf)
theorem same_updF {p : Addr} {o : HO} (m : Same F H) (h : H p = some o) : Same (upd F p o) H := fun b u e => by
  by_cases hb : b = p
  · subst hb
    rw [upd_same] at e
    cases e
    exact h
  · rw [upd_ne hb] at e
    exact m b u e
theorem same_upd1 {p : Addr} {o : HO} (h : F p = none) : Same F (upd F p o) := fun b u e => by
  rw [upd_ne (ne_of_none e h)]
  exact e
/-- a new thing in hand is data from now on -/
theorem Rel.settleG (R0 : Rel K G σ H F env) (R : Rel K G σ H' F' env') (E : Ext K σ env H F H' F' env') {p : Addr} {u : HO} (hp : H p = none) (fp : F' p = none) (hp' : H' p = some u) :
    Rel K G σ H' (upd F' p u) env' ∧ Ext K σ env H F H' (upd F' p u) env' ∧ Same F' (upd F' p u) := by
  have m : Same F' (upd F' p u) := same_upd1 fp
  have nown : ¬ Own σ env' p := fun z => (R0.ownAt (E.own p z)).1 hp
  refine ⟨⟨R.len, same_updF R.sub hp', R.base.trans m, R.fro, R.live, fun b h => ?_, fun i d h => ?_, fun i s es h hm => ?_, R.apart, R.tabs, R.ent⟩, ⟨E.mono.trans m, E.keep, E.live, fun b h => ?_, E.own, E.tabs⟩, m⟩
  · by_cases hb : b = p
    · subst hb
      refine .inr ?_
      cases e : G.H0 b with
      | none => rfl
      | some o => exact absurd hp (R0.live b (by rw [e]; simp))
    · rw [upd_ne hb] at h
      exact R.new b h
  · obtain ⟨w, a, z⟩ := R.val i d h
    exact ⟨w, a, dpMono m d z⟩
  · obtain ⟨p2, ws, a, f, hw, z, b1, b2⟩ := R.mug i s es h hm
    refine ⟨p2, ws, a, ?_, hw, z.mono m, b1, b2⟩
    rw [upd_ne]
    · exact f
    · rintro rfl
      exact nown ⟨i, s, es, h, hm, a⟩
  · by_cases hb : b = p
    · subst hb
      exact .inr (.inl hp)
    · rw [upd_ne hb] at h
      exact E.fresh b h
theorem Rel.settle (R0 : Rel K G σ H F env) (R : Rel K G σ H' F' env') (E : Ext K σ env H F H' F' env') {v : V} {r : Sl} (q : RV K H H' F' v r) :
    ∃ F2, Rel K G σ H' F2 env' ∧ Ext K σ env H F H' F2 env' ∧ Dq K F2 v r.d := by
  cases r with
  | v d => exact ⟨F', R, E, q⟩
  | b ds => exact q.elim
  | o ds =>
    obtain ⟨p, vs, rfl, hp, fp, hp', dq⟩ := q
    obtain ⟨R2, E2, m⟩ := R0.settleG R E hp fp hp'
    exact ⟨_, R2, E2, .lst (.inl (.inl upd_same)) (dpAllMono m ds dq)⟩
  | w kvs =>
    obtain ⟨p, vs, rfl, hp, fp, hp', dq⟩ := q
    obtain ⟨R2, E2, m⟩ := R0.settleG R E hp fp hp'
    exact ⟨_, R2, E2, .dct (.inl upd_same) (dpKVMono m kvs dq)⟩
/-- a name's own thing is data from now on -/
theorem Rel.useG (R : Rel K G σ H F env) {i : Nat} {s0 : Sl} {c : Ob} {d : PyData} {p : Addr} {u : HO} (h : env.at i = some s0) (hm0 : s0.m = some c) (a : σ[i]? = some (some (.ref p))) (f : F p = none) (hp : H p = some u) (b1 : G.H0 p = none)
    (dq : Dq K (upd F p u) (.ref p) d) : Rel K G σ H (upd F p u) (env.set i (some (.v d))) ∧ Ext K σ env H F H (upd F p u) (env.set i (some (.v d))) := by
  have m : Same F (upd F p u) := same_upd1 f
  have hl := at_lt h
  have key : ∀ j s es, En.at (env.set i (some (.v d))) j = some s → s.m = some es → j ≠ i ∧ env.at j = some s := fun j s es e hm => by
    rw [at_set] at e
    by_cases hj : i = j
    · rw [if_pos ⟨hj, hl⟩] at e
      cases e
      cases hm
    · rw [if_neg fun z => hj z.1] at e
      exact ⟨fun z => hj z.symm, e⟩
  refine ⟨⟨by rw [List.length_set]; exact R.len, same_updF R.sub hp, R.base.trans m, R.fro, R.live, fun b hb => ?_, fun j d e => ?_, fun j s es e hm => ?_, fun j k q2 n z1 z2 => ?_, R.tabs, R.ent⟩, ⟨m, fun _ _ z _ _ => z, fun _ z => z, fun b hb => ?_, fun b z => ?_, Tm.refl _⟩⟩
  · by_cases hbp : b = p
    · subst hbp
      exact .inr b1
    · rw [upd_ne hbp] at hb
      exact R.new b hb
  · rw [at_set] at e
    by_cases hj : i = j
    · subst hj
      rw [if_pos ⟨rfl, hl⟩] at e
      cases e
      exact ⟨_, a, dq⟩
    · rw [if_neg fun z => hj z.1] at e
      obtain ⟨v, a2, q2⟩ := R.val j d e
      exact ⟨v, a2, dpMono m d q2⟩
  · obtain ⟨nj, e'⟩ := key j s es e hm
    obtain ⟨p2, ws, a2, f2, hw, z, c1, c2⟩ := R.mug j s es e' hm
    refine ⟨p2, ws, a2, ?_, hw, z.mono m, c1, c2⟩
    rw [upd_ne]
    · exact f2
    · rintro rfl
      exact R.apart j i p2 nj ⟨s, es, e', hm⟩ ⟨_, c, h, hm0⟩ a2 a
  · obtain ⟨s, es, e, hm⟩ := z1
    obtain ⟨s', es', e', hm'⟩ := z2
    exact R.apart j k q2 n ⟨s, es, (key j s es e hm).2, hm⟩ ⟨s', es', (key k s' es' e' hm').2, hm'⟩
  · by_cases hbp : b = p
    · subst hbp
      exact .inr (.inr ⟨i, _, c, h, hm0, a⟩)
    · rw [upd_ne hbp] at hb
      exact .inl hb
  · obtain ⟨j, s, es, e, hm, g⟩ := z
    exact ⟨j, s, es, (key j s es e hm).2, hm, g⟩
theorem Rel.useO (R : Rel K G σ H F env) {i : Nat} {ds : List PyData} (h : env.at i = some (.o ds)) :
    ∃ p vs, σ[i]? = some (some (.ref p)) ∧ Rel K G σ H (upd F p (.lst vs)) (env.set i (some (.v (.list ds)))) ∧ Ext K σ env H F H (upd F p (.lst vs)) (env.set i (some (.v (.list ds)))) ∧ Dq K (upd F p (.lst vs)) (.ref p) (.list ds) := by
  obtain ⟨p, vs, a, f, hp, q, b1, b2⟩ := R.mu i _ ds h rfl
  have dq : Dq K (upd F p (.lst vs)) (.ref p) (.list ds) := .lst (.inl (.inl upd_same)) (dpAllMono (same_upd1 f) ds q)
  obtain ⟨R2, E2⟩ := R.useG h rfl a f hp (b1 rfl) dq
  exact ⟨p, vs, a, R2, E2, dq⟩
theorem Rel.useM (R : Rel K G σ H F env) {i : Nat} {ds : List (PyData × PyData)} (h : env.at i = some (.w ds)) :
    ∃ p vs, σ[i]? = some (some (.ref p)) ∧ Rel K G σ H (upd F p (.dK vs)) (env.set i (some (.v (.dict ds)))) ∧ Ext K σ env H F H (upd F p (.dK vs)) (env.set i (some (.v (.dict ds)))) ∧ Dq K (upd F p (.dK vs)) (.ref p) (.dict ds) := by
  obtain ⟨p, vs, a, f, hp, q, b1, b2⟩ := R.muD i _ ds h rfl
  have dq : Dq K (upd F p (.dK vs)) (.ref p) (.dict ds) := .dct (.inl upd_same) (dpKVMono (same_upd1 f) ds q)
  obtain ⟨R2, E2⟩ := R.useG h rfl a f hp (b1 rfl) dq
  exact ⟨p, vs, a, R2, E2, dq⟩
/-- a name's own or lent list is changed -/
theorem Rel.changeG (R : Rel K G σ H F env) {i : Nat} {s s' : Sl} {ds ds' : Ob} {p : Addr} {ws : HO} (h : env.at i = some s) (hm : s.m = some ds) (a : σ[i]? = some (some (.ref p)))
    (hm' : s'.m = some ds') (hb : isB s' = isB s) (q : ObR K F ws ds') : Rel K G σ (upd H p ws) F (env.set i (some s')) ∧ Ext K σ env H F (upd H p ws) F (env.set i (some s')) := by
  obtain ⟨p2, vs2, a2, f, hp2, q2, b1, b2⟩ := R.mug i s ds h hm
  rw [a] at a2
  cases a2
  have hl := at_lt h
  have own0 : Own σ env p := ⟨i, s, ds, h, hm, a⟩
  have key : ∀ j t es, En.at (env.set i (some s')) j = some t → t.m = some es → (j = i ∧ t = s' ∧ es = ds') ∨ (j ≠ i ∧ env.at j = some t) := fun j t es e hm2 => by
    rw [at_set] at e
    by_cases hj : i = j
    · rw [if_pos ⟨hj, hl⟩] at e
      cases e
      rw [hm'] at hm2
      cases hm2
      exact .inl ⟨hj.symm, rfl, rfl⟩
    · rw [if_neg fun z => hj z.1] at e
      exact .inr ⟨fun z => hj z.symm, e⟩
  have was : ∀ j, (∃ t es, En.at (env.set i (some s')) j = some t ∧ t.m = some es) → ∃ t es, env.at j = some t ∧ t.m = some es := fun j ⟨t, es, e, hm2⟩ => by
    rcases key j t es e hm2 with ⟨rfl, _, _⟩ | ⟨_, e'⟩
    · exact ⟨s, ds, h, hm⟩
    · exact ⟨t, es, e', hm2⟩
  refine ⟨⟨by rw [List.length_set]; exact R.len, fun b o e => ?_, R.base, fun b o e nt n => ?_, fun b e => ?_, R.new, fun j d e => ?_, fun j t es e hm2 => ?_, fun j k q2 n z1 z2 => R.apart j k q2 n (was j z1) (was k z2), R.tabs.trans (Tm.upd (ObR.da hp2 q2) q.nl), R.ent.tm (Tm.upd (ObR.da hp2 q2) q.nl)⟩, ⟨Same.refl _, fun b o e nt n => ?_, fun b e => ?_, fun b e => .inl e, fun b z => ?_, Tm.upd (ObR.da hp2 q2) q.nl⟩⟩
  · rw [upd_ne (ne_of_none e f)]
    exact R.sub b o e
  · have hb2 : b ≠ p := by
      rintro rfl
      cases hs : isB s with
      | true => exact n i (b2 hs)
      | false =>
        rw [b1 hs] at e
        cases e
    rw [upd_ne hb2]
    exact R.fro b o e nt n
  · by_cases hbp : b = p
    · subst hbp
      rw [upd_same]
      simp
    · rw [upd_ne hbp]
      exact R.live b e
  · rw [at_set] at e
    by_cases hj : i = j
    · subst hj
      rw [if_pos ⟨rfl, hl⟩] at e
      cases e
      cases hm'
    · rw [if_neg fun z => hj z.1] at e
      exact R.val j d e
  · rcases key j t es e hm2 with ⟨rfl, rfl, rfl⟩ | ⟨nj, e'⟩
    · exact ⟨p, ws, a, f, upd_same, q, by rw [hb]; exact b1, by rw [hb]; exact b2⟩
    · obtain ⟨p3, vs3, a3, f3, hp3, q3, c1, c2⟩ := R.mug j t es e' hm2
      refine ⟨p3, vs3, a3, f3, ?_, q3, c1, c2⟩
      rw [upd_ne]
      · exact hp3
      · rintro rfl
        exact R.apart j i p3 nj ⟨t, es, e', hm2⟩ ⟨s, ds, h, hm⟩ a3 a
  · rw [upd_ne]
    · exact e
    · rintro rfl
      exact n own0
  · by_cases hbp : b = p
    · subst hbp
      rw [upd_same]
      simp
    · rw [upd_ne hbp]
      exact e
  · obtain ⟨j, t, es, e, hm2, g⟩ := z
    rcases key j t es e hm2 with ⟨rfl, rfl, rfl⟩ | ⟨nj, e'⟩
    · exact ⟨_, s, ds, h, hm, g⟩
    · exact ⟨j, t, es, e', hm2, g⟩
theorem Rel.change (R : Rel K G σ H F env) {i : Nat} {s s' : Sl} {ds ds' : List PyData} {p : Addr} {vs ws : List V} (h : env.at i = some s) (hm : s.m = some (.l ds)) (a : σ[i]? = some (some (.ref p))) (_hp : H p = some (.lst vs))
    (hm' : s'.m = some (.l ds')) (hb : isB s' = isB s) (q : DqAll K F ws ds') : Rel K G σ (upd H p (.lst ws)) F (env.set i (some s')) ∧ Ext K σ env H F (upd H p (.lst ws)) F (env.set i (some s')) :=
  R.changeG h hm a hm' hb q
theorem put_inv {i : Nat} {s : Sl} (h : env.put i s = some env') : env' = env.set i (some s) ∧ ∀ ds, env.at i ≠ some (.b ds) := by
  unfold En.put at h
  split at h
  · cases h
  · rename_i hn
    exact ⟨(Option.some.inj h).symm, fun ds e => hn ds e⟩
/-- a name holds data -/
theorem Rel.setv (R : Rel K G σ H F env) {i : Nat} {d : PyData} {v : V} (h : env.put i (.v d) = some env') (q : Dq K F v d) : Rel K G (σ.set i (some v)) H F env' := by
  obtain ⟨rfl, _⟩ := put_inv h
  have key : ∀ j t es, En.at (env.set i (some (.v d))) j = some t → t.m = some es → (j = i → ¬ i < env.length) ∧ env.at j = some t := fun j t es e hm2 => by
    rw [at_set] at e
    by_cases hj : i = j ∧ i < env.length
    · rw [if_pos hj] at e
      cases e
      cases hm2
    · rw [if_neg hj] at e
      exact ⟨fun z l => hj ⟨z.symm, l⟩, e⟩
  have look : ∀ j t es, En.at (env.set i (some (.v d))) j = some t → t.m = some es → (σ.set i (some v))[j]? = σ[j]? := fun j t es e hm2 => by
    obtain ⟨n, e'⟩ := key j t es e hm2
    rw [st_get, if_neg]
    intro z
    exact n z.symm (by rw [z]; exact at_lt e')
  refine ⟨by rw [List.length_set, List.length_set]; exact R.len, R.sub, R.base, R.fro, R.live, R.new, fun j d' e => ?_, fun j t es e hm2 => ?_, fun j k q2 n z1 z2 => ?_, R.tabs, R.ent⟩
  · rw [at_set] at e
    by_cases hj : i = j ∧ i < env.length
    · rw [if_pos hj] at e
      cases e
      refine ⟨v, ?_, q⟩
      rw [st_get, if_pos hj.1, if_pos (by rw [← R.len]; exact hj.2)]
    · rw [if_neg hj] at e
      obtain ⟨w, a, z⟩ := R.val j d' e
      refine ⟨w, ?_, z⟩
      rw [st_get, if_neg fun y => hj ⟨y, by rw [y]; exact at_lt e⟩]
      exact a
  · rw [look j t es e hm2]
    exact R.mug j t es (key j t es e hm2).2 hm2
  · obtain ⟨t1, es1, e1, m1⟩ := z1
    obtain ⟨t2, es2, e2, m2⟩ := z2
    rw [look j t1 es1 e1 m1, look k t2 es2 e2 m2]
    exact R.apart j k q2 n ⟨t1, es1, (key j t1 es1 e1 m1).2, m1⟩ ⟨t2, es2, (key k t2 es2 e2 m2).2, m2⟩
/-- a name takes a list in hand as its own -/
theorem Rel.setoG (R : Rel K G σ H F env) {i : Nat} {s0 : Sl} {ds : Ob} {p : Addr} {vs : HO} (hs0 : s0.m = some ds) (hb0 : isB s0 = false) (h : env.put i s0 = some env') (g0 : G.H0 p = none) (f : F p = none) (hp : H p = some vs) (q : ObR K F vs ds)
    (no : ¬ Own σ env p) : Rel K G (σ.set i (some (.ref p))) H F env' := by
  obtain ⟨rfl, _⟩ := put_inv h
  have key : ∀ j t es, En.at (env.set i (some s0)) j = some t → t.m = some es → (j = i ∧ i < env.length ∧ t = s0 ∧ es = ds) ∨ ((j = i → ¬ i < env.length) ∧ env.at j = some t) := fun j t es e hm2 => by
    rw [at_set] at e
    by_cases hj : i = j ∧ i < env.length
    · rw [if_pos hj] at e
      cases e
      rw [hs0] at hm2
      cases hm2
      exact .inl ⟨hj.1.symm, hj.2, rfl, rfl⟩
    · rw [if_neg hj] at e
      exact .inr ⟨fun z l => hj ⟨z.symm, l⟩, e⟩
  have look : ∀ j t, (j = i → ¬ i < env.length) → env.at j = some t → (σ.set i (some (V.ref p)))[j]? = σ[j]? := fun j t n e' => by
    rw [st_get, if_neg]
    intro z
    exact n z.symm (by rw [z]; exact at_lt e')
  refine ⟨by rw [List.length_set, List.length_set]; exact R.len, R.sub, R.base, R.fro, R.live, R.new, fun j d' e => ?_, fun j t es e hm2 => ?_, fun j k q2 n z1 z2 g1 g2 => ?_, R.tabs, R.ent⟩
  · rw [at_set] at e
    by_cases hj : i = j ∧ i < env.length
    · rw [if_pos hj] at e
      cases e
      cases hs0
    · rw [if_neg hj] at e
      obtain ⟨w, a, z⟩ := R.val j d' e
      refine ⟨w, ?_, z⟩
      rw [st_get, if_neg fun y => hj ⟨y, by rw [y]; exact at_lt e⟩]
      exact a
  · rcases key j t es e hm2 with ⟨rfl, hl, rfl, rfl⟩ | ⟨n, e'⟩
    · refine ⟨p, vs, ?_, f, hp, q, fun _ => g0, fun z => by rw [hb0] at z; cases z⟩
      rw [st_get, if_pos rfl, if_pos (by rw [← R.len]; exact hl)]
    · rw [look j t n e']
      exact R.mug j t es e' hm2
  · obtain ⟨t1, es1, e1, m1⟩ := z1
    obtain ⟨t2, es2, e2, m2⟩ := z2
    rcases key j t1 es1 e1 m1 with ⟨rfl, l1, _, _⟩ | ⟨n1, e1'⟩
    · rcases key k t2 es2 e2 m2 with ⟨rfl, _, _, _⟩ | ⟨n2, e2'⟩
      · exact n rfl
      · rw [look k t2 n2 e2'] at g2
        rw [st_get, if_pos rfl, if_pos (by rw [← R.len]; exact l1)] at g1
        cases g1
        exact no ⟨k, t2, es2, e2', m2, g2⟩
    · rw [look j t1 n1 e1'] at g1
      rcases key k t2 es2 e2 m2 with ⟨rfl, l2, _, _⟩ | ⟨n2, e2'⟩
      · rw [st_get, if_pos rfl, if_pos (by rw [← R.len]; exact l2)] at g2
        cases g2
        exact no ⟨j, t1, es1, e1', m1, g1⟩
      · rw [look k t2 n2 e2'] at g2
        exact R.apart j k q2 n ⟨t1, es1, e1', m1⟩ ⟨t2, es2, e2', m2⟩ g1 g2
theorem Rel.seto (R : Rel K G σ H F env) {i : Nat} {ds : List PyData} {p : Addr} {vs : List V} (h : env.put i (.o ds) = some env') (g0 : G.H0 p = none) (f : F p = none) (hp : H p = some (.lst vs)) (q : DqAll K F vs ds)
    (no : ¬ Own σ env p) : Rel K G (σ.set i (some (.ref p))) H F env' := R.setoG (ds := .l ds) rfl rfl h g0 f hp q no
theorem Rel.setm (R : Rel K G σ H F env) {i : Nat} {ds : List (PyData × PyData)} {p : Addr} {vs : List (L2.Key × V)} (h : env.put i (.w ds) = some env') (g0 : G.H0 p = none) (f : F p = none) (hp : H p = some (.dK vs)) (q : DqKV K F vs ds)
    (no : ¬ Own σ env p) : Rel K G (σ.set i (some (.ref p))) H F env' := R.setoG (ds := .d ds) rfl rfl h g0 f hp q no
end
end PF

set_option maxHeartbeats 4000000
/-! PFM: lists and tuples repeated. -/
namespace PF
open PySem PySem.Spec PyProof.Rows L2
theorem log_rg {k : Int} {m : Nat} (hm : m ≤ 62) (h : k.natAbs.log2 < m) : -(2 ^ 63) ≤ k ∧ k < 2 ^ 63 := by
  have h1 : k.natAbs < 2 ^ 62 := by
    by_cases z : k.natAbs = 0
    · rw [z]; decide
    · exact (Nat.log2_lt z).mp (Nat.lt_of_lt_of_le h hm)
  omega
theorem log_rg2 {k : Int} (h : k.natAbs.log2 < 61) : -(2 ^ 62) ≤ k ∧ k < 2 ^ 62 := by
  have h1 : k.natAbs < 2 ^ 61 := by
    by_cases z : k.natAbs = 0
    · rw [z]; decide
    · exact (Nat.log2_lt z).mp h
  omega
theorem log_of {k : Int} (h1 : -1000000000000 ≤ k) (h2 : k ≤ 1000000000000) : k.natAbs.log2 < 61 := by
  by_cases z : k.natAbs = 0
  · rw [z]; decide
  · exact (Nat.log2_lt z).mpr (by omega)
theorem tupMulOne (l : Addr) (items : Array Value) (n : Nat) (u : Tok) (k : Int) (dd : Option Addr) (sl : Array (Option Value)) (c0 : (decide (k < -(2 ^ 63)) || decide (k ≥ 2 ^ 63)) = false) (c1 : (items.isEmpty || k == 1) = true) :
    Meets (Builtin.«tuple.__mul__» ⟨[.ref l, .int k u], []⟩) (fun _ R s => s.heap.get? l = some { cls := .type "tuple", dict := dd, data := .seq items n, slots := sl } ∧ R (.ok (.ret (Value.ref l))) s) :=
  .of_wp fun prog w A R s h => by
    obtain ⟨hp, g, d, tk, os⟩ := s
    obtain ⟨hl, h⟩ := h
    have f1 := AutoSeq1.idx_int
    wp_walk using wpAny_loadPart' hl
    repeat (first
      | (refine wpAny_ite_false (decide_eq_false (by rw [c0]; exact Bool.false_ne_true)) ?_
         wp_walk using wpAny_loadPart' hl)
      | (refine wpAny_ite_true (decide_eq_true c1) ?_
         wp_walk using wpAny_loadPart' hl))
    exact ⟨_, rfl, h⟩
theorem tupMulNone (l : Addr) (items : Array Value) (n : Nat) (u : Tok) (k : Int) (dd : Option Addr) (sl : Array (Option Value)) (c0 : (decide (k < -(2 ^ 63)) || decide (k ≥ 2 ^ 63)) = false) (c1 : (items.isEmpty || k == 1) = false) (c2 : (decide (k ≤ 0) || items.isEmpty) = true) :
    Meets (Builtin.«tuple.__mul__» ⟨[.ref l, .int k u], []⟩) (fun _ R s => s.heap.get? l = some { cls := .type "tuple", dict := dd, data := .seq items n, slots := sl } ∧
      R (.ok (.ret (Value.ref s.heap.objs.size))) { s with heap := s.heap.push { cls := Value.type "tuple", data := Data.seq #[] }, toks := s.toks }) :=
  .of_wp fun prog w A R s h => by
    obtain ⟨hp, g, d, tk, os⟩ := s
    obtain ⟨hl, h⟩ := h
    have f1 := AutoSeq1.idx_int
    wp_walk using wpAny_loadPart' hl
    repeat (first
      | (refine wpAny_ite_false (decide_eq_false (by rw [c0]; exact Bool.false_ne_true)) ?_
         wp_walk using wpAny_loadPart' hl)
      | (refine wpAny_ite_false (decide_eq_false (by rw [c1]; exact Bool.false_ne_true)) ?_
         wp_walk using wpAny_loadPart' hl)
      | (refine wpAny_ite_true (decide_eq_true c2) ?_
         wp_walk using wpAny_loadPart' hl))
    exact ⟨_, rfl, h⟩
/-- t * k, once or not at all -/
def rRepS (K : PySem.W.Frag) : R2 := fun x y H Q => ∃ l k xs, x = .ref l ∧ y = .int k ∧ SqT K H l xs ∧ -(2 ^ 63) ≤ k ∧ k < 2 ^ 63 ∧ (xs = [] ∨ k ≤ 1) ∧ (xs = [] ∨ k = 1 → Q (.ref l) H) ∧ (¬ (xs = [] ∨ k = 1) → ∀ p, H p = none → Q (.ref p) (upd H p (.tup [])))
/-- xs * k -/
def rRepR (K : PySem.W.Frag) : R2 := fun x y H Q => ∃ l k xs, x = .ref l ∧ y = .int k ∧ RdL K H l xs ∧ -(2 ^ 63) ≤ k ∧ k < 2 ^ 63 ∧ xs.length * k.toNat ≤ sizeLine ∧ ∀ p, H p = none → Q (.ref p) (upd H p (.lst (List.replicate k.toNat xs).flatten))
theorem dpAll_rep {K : PySem.W.Frag} {H : Hp} {vs : List V} {ds : List PyData} (h : DqAll K H vs ds) : ∀ n : Nat, DqAll K H (List.replicate n vs).flatten (List.replicate n ds).flatten
  | 0 => .nil
  | n + 1 => by
    rw [List.replicate_succ, List.replicate_succ, List.flatten_cons, List.flatten_cons]
    exact dpAll_app h (dpAll_rep h n)
section
variable {X : Cx} {pins : List (Addr × Obj)} {σ : L2.St} {H F : Hp} {s : Shared}
theorem Inv.rdL (I : Inv X pins σ H s) {l : Addr} {xs : List V} (h : RdL X.K H l xs) : xs.length ≤ sizeLine ∧ ∃ (its : List Value) (n : Nat), Vals xs its ∧ xs.length = its.length ∧ s.heap.get? l = some { cls := .type "list", data := .seq its.toArray n } := by
  rcases h with h | ⟨its, n, h, r, z⟩
  · obtain ⟨z, its, n, r, e⟩ := h.ok I.hok
    exact ⟨z, its, n, r, r.length, e⟩
  · exact ⟨z, its, n, r, r.length, I.kIn _ _ h⟩
end
section
variable {X : Cx}
theorem op_fdivM : OpR X (binaryOp .FloorDiv) (rI (fun _ j => j ≠ 0 ∧ j.natAbs.log2 < 9000) fun i j => .int (i.fdiv j)) := opI fun _ _ _ _ _ _ _ hc q => floordiv_int hc.1 q (.inl (PyProof.noPylong_of_log2 hc.2))
theorem op_repS : OpR X (binaryOp .Mult) (rRepS X.K) := by
  intro pins s σ H x y v u Q I r1 r2 h
  obtain ⟨l, k, xs, rfl, rfl, hT, h1, h2, h3, q1, q2⟩ := h
  cases r1
  obtain ⟨t, rfl⟩ := r2
  obtain ⟨its, r, ⟨⟨cls, dd, data, sl⟩, ho, hc, n, hd⟩, hs⟩ := I.tuple hT
  simp only at hc hd
  subst hc hd
  have hle : its.length = xs.length := r.length.symm
  have c0 : (decide (k < -(2 ^ 63)) || decide (k ≥ 2 ^ 63)) = false := by
    rw [decide_eq_false (by omega), decide_eq_false (by omega)] <;> rfl
  have he : its.toArray.isEmpty = decide (xs = []) := by
    cases xs with
    | nil => rw [List.eq_nil_of_length_eq_zero (hle.trans rfl)]; rfl
    | cons a b =>
      cases its with
      | nil => cases hle
      | cons c d => rfl
  by_cases hx : xs = [] ∨ k = 1
  · have c1 : (its.toArray.isEmpty || k == 1) = true := by
      rw [he]
      rcases hx with z | z
      · rw [decide_eq_true z]
        rfl
      · rw [z, beq_self_eq_true, Bool.or_true]
    refine wpAny_binaryOp_repeat_ref (T := "tuple") (U := "int") (by decide) ⟨_, ho, rfl⟩ (fun s' => typeIs_int s' k t) noFill_tuple_mul F.fills_int_mul F.slot_int_rmul repeat_tuple F.slot_int_index.lookup
      (call_meets F.slot_int_rmul (typeIs_int s k t) F.entry_int_rmul (F.args_int_rmul_2 _ _) (int_rmul_tuple k t l its.toArray n dd sl)
        ⟨ho, rfl, ⟨_, ho, rfl⟩, call_meets F.slot_tuple_mul ⟨_, ho, rfl⟩ F.entry_tuple_mul (F.args_tuple_mul_2 _ _) (tupMulOne l its.toArray n t k dd sl c0 c1) ⟨ho, ?_⟩⟩)
    exact ⟨.ref l, H, I, rfl, q1 hx⟩
  · have c1 : (its.toArray.isEmpty || k == 1) = false := by
      rw [he, decide_eq_false fun z => hx (.inl z)]
      exact beq_eq_false_iff_ne.mpr fun z => hx (.inr z)
    have c2 : (decide (k ≤ 0) || its.toArray.isEmpty) = true := by
      have : k ≤ 0 := by
        have : k ≠ 1 := fun z => hx (.inr z)
        rcases h3 with z | z
        · exact absurd (.inl z) hx
        · omega
      rw [decide_eq_true this]
      rfl
    refine wpAny_binaryOp_repeat_ref (T := "tuple") (U := "int") (by decide) ⟨_, ho, rfl⟩ (fun s' => typeIs_int s' k t) noFill_tuple_mul F.fills_int_mul F.slot_int_rmul repeat_tuple F.slot_int_index.lookup
      (call_meets F.slot_int_rmul (typeIs_int s k t) F.entry_int_rmul (F.args_int_rmul_2 _ _) (int_rmul_tuple k t l its.toArray n dd sl)
        ⟨ho, rfl, ⟨_, ho, rfl⟩, call_meets F.slot_tuple_mul ⟨_, ho, rfl⟩ F.entry_tuple_mul (F.args_tuple_mul_2 _ _) (tupMulNone l its.toArray n t k dd sl c0 c1 c2) ⟨ho, ?_⟩⟩)
    refine ⟨.ref s.heap.objs.size, _, I.laid (t' := s.toks) (o := .tup []) (fun b ob q => Heap.get?_push_of_some _ q) (Nat.le_refl _) ?_, rfl, q2 hx _ (I.hok.fresh (Nat.le_refl _))⟩
    exact ⟨Nat.zero_le _, _, .nil, IsTup.new _ _⟩
theorem op_repR : OpR X (binaryOp .Mult) (rRepR X.K) := by
  intro pins s σ H x y v u Q I r1 r2 h
  obtain ⟨l, k, xs, rfl, rfl, hH, h1, h2, hz, q⟩ := h
  cases r1
  obtain ⟨t, rfl⟩ := r2
  obtain ⟨z, its, n, r, hl, e⟩ := Inv.rdL I hH
  have hlen : its.toArray.size * k.toNat ≤ sizeLine := by rw [List.size_toArray, ← hl]; exact hz
  have hcap : ¬ its.toArray.size * k.toNat > (2 ^ 63 - 1) / 8 := by
    have : (sizeLine : Nat) ≤ (2 ^ 63 - 1) / 8 := by decide
    omega
  have hfit : ¬ (!Builtin.List.listFitsIndex k) = true := by
    rw [fitsIndex_both h1 h2]
    exact Bool.false_ne_true
  have hlong : ¬ Builtin.List.listTooLong (its.toArray.size * k.toNat) = true := by
    rw [notLongL hlen]
    exact Bool.false_ne_true
  have hnew : List.foldl (fun x1 x2 => x1 ++ x2) #[] (List.replicate (if its.toArray.isEmpty = true then 0 else k.toNat) its.toArray) = (List.replicate k.toNat its).flatten.toArray := by
    rw [size_rep]
    cases its with
    | nil => simp
    | cons a r' => rw [if_neg (by simp)]
  refine wpAny_binaryOp_repeat_ref (T := "list") (U := "int") (by decide) ⟨_, e, rfl⟩ (fun s' => typeIs_int s' k t) noFill_list_mul F.fills_int_mul F.slot_int_rmul repeat_list F.slot_int_index.lookup
    (call_meets F.slot_int_rmul (typeIs_int s k t) F.entry_int_rmul (F.args_int_rmul_2 _ _) (int___rmul___int_list k t l its.toArray n)
      ⟨e, rfl, ⟨_, e, rfl⟩, call_meets F.slot_list_mul ⟨_, e, rfl⟩ F.entry_list_mul (F.args_list_mul_2 _ _) (AutoListH.list___mul___list_int_3 l its.toArray n k t hfit hcap hlong) ⟨e, ?_⟩⟩)
  rw [hnew]
  exact ⟨.ref _, _, Inv.lnew (t' := s.toks) I (r.rep k.toNat) (by rw [PyProof.Rows.lm_len_rep_flat, Nat.mul_comm]; exact hz), rfl, q _ (Inv.fresh I)⟩
/-- a tuple repeated, a million items at most -/
def rRepU (K : PySem.W.Frag) : R2 := fun x y H Q => ∃ l k xs, x = .ref l ∧ y = .int k ∧ SqT K H l xs ∧ xs ≠ [] ∧ 2 ≤ k ∧ xs.length * k.toNat ≤ 1000000 ∧ ∀ p, H p = none → Q (.ref p) (upd H p (.tup (List.replicate k.toNat xs).flatten))
theorem op_repU : OpR X (binaryOp .Mult) (rRepU X.K) := by
  intro pins s σ H x y v u Q I r1 r2 h
  obtain ⟨l, k, xs, rfl, rfl, hT, ne, k2, big, q⟩ := h
  cases r1
  obtain ⟨t, rfl⟩ := r2
  obtain ⟨its, rv, ⟨⟨cls, dd, data, sl⟩, ob, oc, n, od⟩, lim⟩ := I.tuple hT
  simp only at oc od
  subst oc od
  have le : its.length = xs.length := rv.length.symm
  have ln0 : 1 ≤ xs.length := List.length_pos_iff.mpr ne
  have kn : k.toNat ≤ 1000000 := Nat.le_trans (Nat.le_mul_of_pos_left _ ln0) big
  have sz : its.toArray.size = xs.length := by rw [List.size_toArray, le]
  have emp : its.toArray.isEmpty = false := by
    cases its with
    | nil => rw [← le] at ln0; simp at ln0
    | cons c d => rfl
  have prod : ((its.toArray.size : Nat) : Int) * k = ((xs.length * k.toNat : Nat) : Int) := by
    rw [sz, Int.natCast_mul, Int.toNat_of_nonneg (by omega)]
  have all : (List.replicate k.toNat its).flatten.length = xs.length * k.toNat := by
    rw [PyProof.Rows.lm_len_rep_flat, le, Nat.mul_comm]
  have b0 : (decide (k < -(2 ^ 63)) || decide (k ≥ 2 ^ 63)) = false := by
    rw [decide_eq_false (show ¬ k < -(2 ^ 63) by omega), decide_eq_false (show ¬ k ≥ 2 ^ 63 by omega)]
    rfl
  have b1 : (its.toArray.isEmpty || k == 1) = false := by rw [emp, Bool.false_or]; exact beq_eq_false_iff_ne.mpr (by omega)
  have b2 : (decide (k ≤ 0) || its.toArray.isEmpty) = false := by rw [emp, Bool.or_false]; exact decide_eq_false (by omega)
  have b3 : ¬ ((its.toArray.size : Nat) : Int) * k > (2 ^ 63 - 1) / 8 := by rw [prod]; omega
  have b4 : Builtin.Tuple.tupleTooMany (((its.toArray.size : Nat) : Int) * k) = false := by
    rw [prod]
    unfold Builtin.Tuple.tupleTooMany
    rw [sizeLine_eq]
    exact decide_eq_false (show ¬ _ by omega)
  have b5 : (List.foldl (fun x1 x2 => x1 ++ x2) #[] (List.replicate k.toNat its.toArray)).size ≤ sizeLine := by
    rw [size_rep, List.size_toArray, all, sizeLine_eq]
    omega
  have go := tuple_mulW l its.toArray n dd sl k t b0 b1 b2 b3 b4 b5
  refine wpAny_binaryOp_repeat_ref (T := "tuple") (U := "int") (by decide) ⟨_, ob, rfl⟩ (fun s' => typeIs_int s' k t) noFill_tuple_mul F.fills_int_mul F.slot_int_rmul repeat_tuple F.slot_int_index.lookup
    (call_meets F.slot_int_rmul (typeIs_int s k t) F.entry_int_rmul (F.args_int_rmul_2 _ _) (int_rmul_tuple k t l its.toArray n dd sl) ⟨ob, rfl, ⟨_, ob, rfl⟩, call_meets F.slot_tuple_mul ⟨_, ob, rfl⟩ F.entry_tuple_mul (F.args_tuple_mul_2 _ _) go ⟨ob, ?_⟩⟩)
  rw [size_rep]
  have new : ObjOk X.prog X.w (upd H s.heap.objs.size (.tup (List.replicate k.toNat xs).flatten)) (s.heap.push { cls := Value.type "tuple", data := Data.seq (List.replicate k.toNat its).flatten.toArray }) s.heap.objs.size (.tup (List.replicate k.toNat xs).flatten) :=
    ⟨by rw [PyProof.Rows.lm_len_rep_flat, Nat.mul_comm, sizeLine_eq]; omega, _, rv.rep k.toNat, IsTup.new _ _⟩
  exact ⟨.ref s.heap.objs.size, _, I.laid (t' := s.toks) (o := .tup (List.replicate k.toNat xs).flatten) (fun b ob q => Heap.get?_push_of_some _ q) (Nat.le_refl _) new, rfl, q _ (I.hok.fresh (Nat.le_refl _))⟩
end
end PF

/-! PFS: sorted(xs), xs a list of tuples of ints of any lengths. -/
namespace PF
open PySem PySem.Spec PyProof.Rows L2
theorem lexI_asym : ∀ a b : List Int, lexI a b = true → lexI b a = false
  | [], [], h => by cases h
  | [], _ :: _, _ => rfl
  | _ :: _, [], h => by cases h
  | a :: r, b :: s, h => by
    unfold lexI at h ⊢
    by_cases e : a = b
    · rw [if_pos e] at h
      rw [if_pos e.symm]
      exact lexI_asym r s h
    · rw [if_neg e] at h
      rw [if_neg fun z => e z.symm]
      have := of_decide_eq_true h
      exact decide_eq_false (by omega)
theorem lexI_tr : ∀ x y z : List Int, lexI y x = false → lexI z y = false → lexI z x = false
  | [], _, [], _, _ => rfl
  | [], [], _ :: _, _, _ => rfl
  | [], _ :: _, _ :: _, _, _ => rfl
  | _ :: _, [], _, h, _ => by cases h
  | _ :: _, _ :: _, [], _, h => by cases h
  | a :: r, b :: s, c :: t, h, h' => by
    unfold lexI at h h' ⊢
    by_cases e : b = a
    · rw [if_pos e] at h
      subst e
      by_cases e2 : c = b
      · rw [if_pos e2] at h' ⊢
        exact lexI_tr r s t h h'
      · rw [if_neg e2] at h' ⊢
        exact h'
    · rw [if_neg e] at h
      have h1 := of_decide_eq_false h
      by_cases e2 : c = b
      · subst e2
        rw [if_neg e]
        exact h
      · rw [if_neg e2] at h'
        have h2 := of_decide_eq_false h'
        rw [if_neg (by omega)]
        exact decide_eq_false (by omega)
theorem lexI_tot : ∀ a b : List Int, lexI a b = false → lexI b a = false → a = b
  | [], [], _, _ => rfl
  | [], _ :: _, h, _ => by cases h
  | _ :: _, [], _, h => by cases h
  | a :: r, b :: s, h, h' => by
    unfold lexI at h h'
    by_cases e : a = b
    · rw [if_pos e] at h
      rw [if_pos e.symm] at h'
      rw [e, lexI_tot r s h h']
    · rw [if_neg e] at h
      rw [if_neg fun z => e z.symm] at h'
      have h1 := of_decide_eq_false h
      have h2 := of_decide_eq_false h'
      omega
section
variable {prog : Program} {w : World} {A : Around} {E : Value → Shared → Prop} {s : Shared} {Q : Bool → Shared → Prop}
theorem lexI_kat {b : Bool} {xs ys : List Value} {ns ms : List Int} {d : Bool} (i : Nat) (hx : IntsAre xs ns) (hy : IntsAre ys ms) (hd : d = decide (ns.length < ms.length))
    (h : Q (lexI ns ms) s) : PySem.W.KatLex prog w A b d Q (xs.zip ys) i s := by
  induction hx generalizing ys ms i with
  | nil =>
    cases hy with
    | nil =>
      rw [show d = false from hd]
      exact PySem.W.kat_nil h
    | cons q u hy =>
      rw [show d = true from hd.trans (decide_eq_true (by simp))]
      exact PySem.W.kat_nil h
  | @cons p t xs ns hx ih =>
    cases hy with
    | nil =>
      rw [show d = false from hd.trans (decide_eq_false (by simp))]
      exact PySem.W.kat_nil h
    | @cons q u ys ms hy =>
      show PySem.W.KatLex prog w A b d Q ((Value.int p t, Value.int q u) :: xs.zip ys) i s
      have hd' : d = decide (ns.length < ms.length) := by
        rw [hd]
        exact decide_eq_decide.mpr (by simp)
      refine PySem.W.kat_cons (wpAny_eqBool_int ?_)
      unfold lexI at h
      by_cases e : p = q
      · rw [if_pos e] at h
        subst e
        rw [beq_self_eq_true]
        refine PySem.W.kat_yes ?_
        first
          | exact ih (i + 1) hy hd' h
          | exact ih _ _ (i + 1) hy hd' h
      · rw [if_neg e] at h
        rw [show (p == q) = false from beq_eq_false_iff_ne.mpr e]
        exact PySem.W.kat_no (TS.oneLt_ints _ h)
theorem swoL (h : Heap) : SrtO.Swo fun v u => lexI (TS.intsOf h v) (TS.intsOf h u) := ⟨fun _ _ z => lexI_asym _ _ z, fun _ _ _ z z' => lexI_tr _ _ _ z z'⟩
theorem firstsL {h : Heap} : ∀ vs : List Value, (∀ v ∈ vs, ∃ ns, TS.TupInts h v ns ∧ ns ≠ []) → ∃ fs, PySem.W.KatTups h vs fs ∧ fs.length = vs.length ∧ ∀ f, f ∈ fs → ∃ n t, f = Value.int n t
  | [], _ => ⟨[], PySem.W.KatTups.nil, rfl, fun f hf => by simp at hf⟩
  | v :: vs, x => by
    obtain ⟨fs, k, hl, hi⟩ := firstsL vs fun u hu => x u (List.mem_cons_of_mem _ hu)
    obtain ⟨ns, ⟨a, xs, rfl, ⟨o, ho, hc, n, hdt⟩, i⟩, hn⟩ := x v (List.mem_cons_self ..)
    obtain ⟨y, ys, e⟩ : ∃ y ys, xs.toList = y :: ys := by
      cases q : xs.toList with
      | nil =>
        rw [q] at i
        cases i
        exact absurd rfl hn
      | cons y ys => exact ⟨y, ys, rfl⟩
    obtain ⟨m, t, hy⟩ := i.all y (by rw [e]; exact List.mem_cons_self ..)
    refine ⟨y :: fs, PySem.W.KatTups.cons ho hc hdt ?_ k, by simp [hl], ?_⟩
    · have z : xs.toList[0]? = some y := by rw [e]; rfl
      simpa using z
    · intro f hf
      rcases List.mem_cons.mp hf with rfl | hf
      · exact ⟨m, t, hy⟩
      · exact hi f hf
theorem cmpL {vs : List Value} {h0 : Heap} (hp : ∀ v ∈ vs, ∃ ns, TS.TupInts s.heap v ns ∧ TS.intsOf h0 v = ns) : SrtO.Cmp prog w A s (tuples' true) (fun p => p.1 ∈ vs) (SrtO.lt2 fun v u => lexI (TS.intsOf h0 v) (TS.intsOf h0 u)) := by
  intro p q hm hm'
  obtain ⟨ns, ⟨a, xs, e, ⟨o, ho, hc, n, hd⟩, i⟩, f1⟩ := hp _ hm
  obtain ⟨ms, ⟨a', xs', e', ⟨o', ho', hc', n', hd'⟩, i'⟩, f2⟩ := hp _ hm'
  show wpAny (model prog w) A (keyLt' (tuples' true) p.1 q.1) (fun r s' => s' = s ∧ r = lexI (TS.intsOf h0 p.1) (TS.intsOf h0 q.1)) (fun _ _ => False) s
  rw [f1, f2, e, e']
  refine PySem.W.kat_lt ho hd ho' hd' (lexI_kat 0 i i' ?_ ⟨rfl, rfl⟩)
  have l1 := i.length
  have l2 := i'.length
  rw [Array.length_toList] at l1 l2
  rw [l1, l2]
theorem sortableL {a : Addr} {vs : List Value} {h0 : Heap} (h2 : 0 < vs.length) (hp : ∀ v ∈ vs, ∃ ns, TS.TupInts s.heap v ns ∧ ns ≠ [] ∧ TS.intsOf h0 v = ns) (ha : ∀ o, s.heap.get? a = some o → o.cls ≠ .type "tuple") :
    SrtO.SortableO prog w A s a vs fun v u => lexI (TS.intsOf h0 v) (TS.intsOf h0 u) := by
  intro h' keep
  have hp' : ∀ v ∈ vs, ∃ ns, TS.TupInts h' v ns ∧ ns ≠ [] ∧ TS.intsOf h0 v = ns := fun v hm => by
    obtain ⟨ns, t, n, e⟩ := hp v hm
    exact ⟨ns, t.keeps fun b o e c => keep b o (fun z => by subst z; exact ha o e c) e, n, e⟩
  obtain ⟨fs, k, hl, hi⟩ := firstsL vs fun v hm => by
    obtain ⟨ns, t, n, _⟩ := hp' v hm
    exact ⟨ns, t, n⟩
  refine ⟨tuples' true, fun Q E hq => ?_, cmpL fun v hm => ?_⟩
  · refine PySem.W.kat_kind (T := .type "int") k (by omega) (fun f hm => ?_) (by rfl) ?_
    · obtain ⟨x, t, rfl⟩ := hi f hm
      exact PySem.W.Looks.now
    · have e : (Value.type "int" != Value.type "tuple") = true := by first | decide +kernel | rfl | decide
      rw [e]
      exact hq
  · obtain ⟨ns, t, _, e⟩ := hp' v hm
    exact ⟨ns, t, e⟩
end
/-- sorted(xs), xs a list of tuples of ints: a new list of the same, ascending -/
def rSortL (K : PySem.W.Frag) : List V → Hp → VK → Prop := fun vs H Q => ∃ (a : Addr) (xs : List V), vs = [V.ref a] ∧ SqL K H a xs ∧ (∀ x ∈ xs, ∃ ns, TupI K H x ns ∧ (2 ≤ xs.length → ns ≠ [])) ∧
  ∀ (ys : List V) (p : Addr), ys.Perm xs → ys.Pairwise (fun x y => ∀ n m, TupI K H x n → TupI K H y m → lexI m n = false) → H p = none → Q (.ref p) (upd H p (.lst ys))
section
variable {X : Cx}
theorem cr_sortL : CallR X (.builtin "sorted") (rSortL X.K) := by
  intro pins s σ H vs us Q I r h
  obtain ⟨a, xs, rfl, hs, hx, q⟩ := h
  obtain ⟨its, rv, hl, hz⟩ := I.list hs
  rw [Vals.ref1 r]
  have hlen := rv.length
  obtain ⟨e1, e2⟩ := bkV_refs rv fun x m => by
    obtain ⟨ns, ⟨t, e, _⟩, _⟩ := hx x m
    exact ⟨t, e⟩
  have hin : ∀ v ∈ its, ∃ ns, TS.TupInts s.heap v ns ∧ (2 ≤ xs.length → ns ≠ []) := fun v hv => by
    obtain ⟨t, rfl⟩ := e2 v hv
    have hm : V.ref t ∈ xs := by
      rw [e1]
      exact List.mem_map.mpr ⟨_, hv, rfl⟩
    obtain ⟨ns, ⟨t', e, ht⟩, hn⟩ := hx _ hm
    cases e
    exact ⟨ns, tupI_raw I ht, hn⟩
  refine SrtO.sorted_ord (swoL s.heap) hl.isList (by rw [← hlen]; exact hz) (fun h2 h₁ a' ha kk => ?_) fun out h1 h2 => ?_
  · refine sortableL (s := { s with heap := h₁ }) (by omega) (fun v hv => ?_) fun o e => ?_
    · obtain ⟨ns, t, n⟩ := hin v hv
      exact ⟨ns, t.keeps fun b o e _ => (kk b o e).2, n (by omega), t.ints⟩
    · have e' : some o = some (seqObj "list" its.toArray 0) := e.symm.trans ha
      cases e'
      intro c
      exact absurd (Value.type.inj c) (by decide)
  · obtain ⟨ep, he'⟩ := PyProof.Rows.sortedAll_at s.heap its out.toArray
    have h3 : ∀ u ∈ out, ∃ a, u = Value.ref a := fun u hu => e2 u (h2.perm.mem_iff.mp hu)
    have hp : (out.map bkV).Perm xs := by
      rw [e1]
      exact h2.perm.map bkV
    have hlen : (out.map bkV).length ≤ sizeLine := by
      rw [hp.length_eq]
      exact hz
    refine ⟨.ref _, upd H (s.heap.objs.size + 1) (.lst (out.map bkV)), I.laid (t' := s.toks) (fun _ _ => PyProof.Rows.sortedAll_old) (Nat.le_succ _) ⟨hlen, out, ep, bkV_vals h3, he'⟩, rfl, q _ _ hp ?_ (I.hok.fresh (Nat.le_succ _))⟩
    rw [List.pairwise_map]
    refine List.Pairwise.imp (fun {u v} huv n m hn hm => ?_) h1
    obtain ⟨t, et, ht⟩ := hn
    obtain ⟨t', et', ht'⟩ := hm
    have eu := bkV_ref et
    have ev := bkV_ref et'
    have i1 : TS.intsOf s.heap u = n := by
      rw [eu]
      exact (tupI_raw I ht).ints
    have i2 : TS.intsOf s.heap v = m := by
      rw [ev]
      exact (tupI_raw I ht').ints
    rw [← i1, ← i2]
    exact huv
end
/-! sorting by insertion -/
section
variable {α : Type} {lt : α → α → Bool}
theorem insS_perm (x : α) : ∀ l : List α, (insS lt x l).Perm (x :: l)
  | [] => List.Perm.refl _
  | y :: r => by
    unfold insS
    split
    · exact ((insS_perm x r).cons y).trans (List.Perm.swap x y r)
    · exact List.Perm.refl _
theorem sortS_perm : ∀ l : List α, (sortS lt l).Perm l
  | [] => List.Perm.refl _
  | x :: r => (insS_perm x _).trans ((sortS_perm r).cons x)
theorem insS_srtd (O : SrtO.Swo lt) (x : α) : ∀ l : List α, SrtO.Srtd lt l → SrtO.Srtd lt (insS lt x l)
  | [], _ => List.pairwise_singleton _ _
  | y :: r, h => by
    obtain ⟨h1, h2⟩ := List.pairwise_cons.mp h
    unfold insS
    split
    · rename_i hy
      refine List.pairwise_cons.mpr ⟨fun z hz => ?_, insS_srtd O x r h2⟩
      rcases List.mem_cons.mp ((insS_perm x r).mem_iff.mp hz) with e | e
      · rw [e]
        exact O.asym _ _ hy
      · exact h1 z e
    · rename_i hy
      have hy' : lt y x = false := by simpa using hy
      refine List.pairwise_cons.mpr ⟨fun z hz => ?_, h⟩
      rcases List.mem_cons.mp hz with e | e
      · rw [e]
        exact hy'
      · exact O.tr _ _ _ hy' (h1 z e)
theorem sortS_srtd (O : SrtO.Swo lt) : ∀ l : List α, SrtO.Srtd lt (sortS lt l)
  | [] => List.Pairwise.nil
  | x :: r => insS_srtd O x _ (sortS_srtd O r)
theorem srt_uniq (tot : ∀ a b, lt a b = false → lt b a = false → a = b) : ∀ {l m : List α}, SrtO.Srtd lt l → SrtO.Srtd lt m → l.Perm m → l = m
  | [], m, _, _, p => (List.Perm.nil_eq p)
  | a :: l, [], _, _, p => absurd p.length_eq (by simp)
  | a :: l, b :: m, h1, h2, p => by
    obtain ⟨a1, a2⟩ := List.pairwise_cons.mp h1
    obtain ⟨b1, b2⟩ := List.pairwise_cons.mp h2
    have e : a = b := by
      rcases List.mem_cons.mp (p.mem_iff.mp (List.mem_cons_self ..)) with e | e
      · exact e
      · rcases List.mem_cons.mp (p.mem_iff.mpr (List.mem_cons_self ..)) with e' | e'
        · exact e'.symm
        · exact tot _ _ (b1 _ e) (a1 _ e')
    subst e
    rw [srt_uniq tot a2 b2 (List.Perm.cons_inv p)]
theorem sort_is (O : SrtO.Swo lt) (tot : ∀ a b, lt a b = false → lt b a = false → a = b) {l m : List α} (h : SrtO.Srtd lt m) (p : m.Perm l) : sortS lt l = m :=
  srt_uniq tot (sortS_srtd O l) h ((sortS_perm l).trans p.symm)
end
theorem swoI : SrtO.Swo (fun a b : Int => decide (a < b)) := ⟨fun x y h => by
  have := of_decide_eq_true h
  exact decide_eq_false (by omega), fun x y z h h' => by
  have h1 := of_decide_eq_false h
  have h2 := of_decide_eq_false h'
  exact decide_eq_false (by omega)⟩
theorem totI (a b : Int) (h : decide (a < b) = false) (h' : decide (b < a) = false) : a = b := by
  have h1 := of_decide_eq_false h
  have h2 := of_decide_eq_false h'
  omega
theorem swoT : SrtO.Swo lexI := ⟨lexI_asym, lexI_tr⟩
section
variable {X : Cx}
/-- sum(t), t a tuple of ints -/
theorem cr_sumT (hc : X.calm = true) : CallR X (.builtin "sum") (fun vs H Q => ∃ (a : Addr) (ns : List Int), vs = [V.ref a] ∧ SqT X.K H a (ns.map V.int) ∧ Q (.int ns.sum) H) := by
  intro pins s σ H vs us Q I r h
  obtain ⟨a, ns, rfl, hs, q⟩ := h
  obtain ⟨its, rv, hl, _⟩ := I.tuple hs
  rw [Vals.ref1 r]
  have hi := rv.ints
  obtain ⟨xs, e⟩ := hi.allInts.items
  have hn : numsOf (intItems xs).toList = ns := by rw [← e]; exact hi.numsOf
  rw [nums_intItems] at hn
  rw [e] at hl
  refine PySem.W.ktm_sumG (I.ok.hd hc) hl fun h' tk t' hk => ?_
  rw [preSum_eq, List.take_of_length_le (by simp), hn]
  exact ⟨.int _, H, I.kept hk, ⟨_, rfl⟩, q⟩
end
end PF

set_option maxHeartbeats 4000000
/-! PFR: t[::-1], t a tuple or a list. -/
namespace PF
open PySem PySem.Spec PySem.Calls PyProof.Rows L2
section
variable {prog : Program} {w : World} {A : Around} {E : Value → Shared → Prop} {s : Shared}
theorem applied_rev {sl : Addr} {vl vu vs : Value} {n : Nat} {Q : Int × Int × Nat → Shared → Prop} (hs : s.heap.IsSliceOf sl vl vu vs) (pl : IsPart vl none) (pu : IsPart vu none) (ps : IsPart vs (some (-1)))
    (h : Q ((n : Int) - 1, -1, n) s) : wpAny (model prog w) A (Builtin.Slice.sliceApplied (.ref sl) (pure (n : Int))) Q E s := by
  obtain ⟨os, hos, hcs, hds⟩ := id hs
  unfold Builtin.Slice.sliceApplied Builtin.Slice.sliceFields
  refine wpAny_bind (wpAny_bind (wpAny_field hos hds (x := vl) rfl (wpAny_bind (wpAny_field hos hds (x := vu) rfl (wpAny_bind (wpAny_field hos hds (x := vs) rfl (wpAny_pure ?_)))))))
  refine wpAny_bind (HT.slicePart_ ps ?_)
  show wpAny _ _ (if ((-1 : Int) == 0) = true then _ else _) _ _ s
  rw [if_neg (by decide)]
  refine wpAny_bind (HT.slicePart_ pl (wpAny_bind (HT.slicePart_ pu (wpAny_bind (wpAny_pure ?_)))))
  show wpAny _ _ (match Builtin.Slice.sliceAdjust none none (-1) (n : Int) with | (lo, hi) => pure (lo, (-1 : Int), Builtin.Slice.slicePlaces lo hi (-1))) _ _ s
  show wpAny _ _ (pure ((n : Int) - 1, (-1 : Int), Builtin.Slice.slicePlaces ((n : Int) - 1) (-1) (-1))) _ _ s
  have e : Builtin.Slice.slicePlaces ((n : Int) - 1) (-1) (-1) = n := by
    unfold Builtin.Slice.slicePlaces
    rw [if_neg (by decide)]
    by_cases h0 : n = 0
    · subst h0
      rfl
    · rw [if_pos (by omega), show (-(-1) : Int) = 1 by decide, Int.ediv_one]
      omega
  rw [e]
  exact wpAny_pure h
theorem pick_rev (xs : Array Value) : ((List.range xs.size).filterMap fun (m : Nat) => xs[(((xs.size : Int) - 1) + (m : Int) * -1).toNat]?).toArray = xs.toList.reverse.toArray := by
  have e : (List.range xs.size).filterMap (fun (m : Nat) => xs[(((xs.size : Int) - 1) + (m : Int) * -1).toNat]?) = ((List.range xs.size).map fun k => xs.size - 1 - k).filterMap (xs[·]?) := by
    rw [List.filterMap_map]
    have e0 : (fun (m : Nat) => xs[(((xs.size : Int) - 1) + (m : Int) * -1).toNat]?) = (fun x => xs[x]?) ∘ fun k => xs.size - 1 - k := by
      funext m
      by_cases hm : m < xs.size
      · have : (((xs.size : Int) - 1) + (m : Int) * -1).toNat = xs.size - 1 - m := by omega
        rw [this]
        rfl
      · have h1 : (((xs.size : Int) - 1) + (m : Int) * -1).toNat = 0 := by omega
        have h2 : xs.size - 1 - m = 0 := by omega
        show xs[(((xs.size : Int) - 1) + (m : Int) * -1).toNat]? = xs[xs.size - 1 - m]?
        rw [h1, h2]
    rw [e0]
  rw [e, PySem.W.krv_range, List.filterMap_reverse, PySem.W.krv_all]
theorem getItem_tuple_rev {t sl : Addr} {items : Array Value} {vl vu vs : Value} {Q : Value → Shared → Prop} (ht : IsTup s.heap t items) (hs : s.heap.IsSliceOf sl vl vu vs) (pl : IsPart vl none) (pu : IsPart vu none) (ps : IsPart vs (some (-1)))
    (h : Q (.ref s.heap.objs.size) { s with heap := s.heap.push { cls := .type "tuple", data := .seq items.toList.reverse.toArray } })
    (hz : items.size ≤ sizeLine) : wpAny (model prog w) A (getItem (.ref t) (.ref sl)) Q E s := by
  have htake : sizeOk (.seq items.toList.reverse.toArray) := by
    show items.toList.reverse.toArray.size ≤ sizeLine
    rw [List.size_toArray, List.length_reverse, Array.length_toList]
    exact hz
  obtain ⟨os, hos, hcs, hds⟩ := id hs
  have hTs : s.TypeIs (.ref sl) "slice" := ⟨os, hos, hcs⟩
  unfold getItem
  try with_reducible refine wpAny_holding ?_
  first | refine wpAny_bind (wpAny_pure ?_) | skip
  refine wpAny_bind (wpAny_sequenceKey ht.typeIs (by decide) ?_)
  refine wpAny_bind (wpAny_callSpecial?_slot (name := Str.ofString "__getitem__") ht.typeIs PyProof.Rows.slot_tuple_getitem
    (wpAny_call_entry PyProof.Rows.slot_tuple_getitem ht.typeIs entry_tuple_getitem ?_ (args_tuple_getitem _ _)))
  show wpAny _ _ (Builtin.Tuple.tupleItemsOf (.ref t) >>= _) _ _ s
  refine wpAny_bind (tupleItemsOf_ ht ?_)
  refine wpAny_bind (wpAny_typeOf hTs ?_)
  rw [if_pos (by decide)]
  refine wpAny_bind (applied_rev hs pl pu ps ?_)
  have hno : ¬ ((((items.size : Int) - 1) == 0 && (-1 : Int) == 1 && items.size == items.size) = true) := by
    intro q
    rw [Bool.and_eq_true, Bool.and_eq_true] at q
    exact absurd q.1.2 (by decide)
  show wpAny _ _ (if (((items.size : Int) - 1) == 0 && (-1 : Int) == 1 && items.size == items.size) = true then _ else _) _ _ s
  rw [if_neg hno, pick_rev]
  first
    | exact wpAny_bind (m := Builtin.Tuple.tupleExact _) (wpAny_newObj_type (wpAny_pure ⟨_, rfl, wpAny_pure h⟩) htake)
    | exact wpAny_bind (m := Builtin.Tuple.tupleExact _) (wpAny_newObj_type (wpAny_bind (wpAny_pure (wpAny_pure ⟨_, rfl, wpAny_pure h⟩))) htake)
    | exact wpAny_bind (wpAny_bind (m := Builtin.Tuple.tupleExact _) (wpAny_newObj_type (wpAny_pure (wpAny_pure ⟨_, rfl, wpAny_pure h⟩)) htake))
    | exact wpAny_bind (wpAny_bind (m := Builtin.Tuple.tupleExact _) (wpAny_newObj_type (wpAny_pure ⟨_, rfl, wpAny_pure h⟩) htake))
end
section
variable {X : Cx}
def tRevA (K : PySem.W.Frag) (te : TE) : TE := fun σ H Q => te σ H fun x H1 => ∃ a xs, x = .ref a ∧ ((SqL K H1 a xs ∧ ∀ p, H1 p = none → Q (.ref p) (upd H1 p (.lst xs.reverse))) ∨ (SqT K H1 a xs ∧ ∀ p, H1 p = none → Q (.ref p) (upd H1 p (.tup xs.reverse))))
theorem pe_revA {e : Expr} {te : TE} {k : Nat} {p1 p2 p3 pos : Pos} (he : PE X e te) : PE X (.Subscript e (.Slice none none (some (.UnaryOp .USub (.Constant (.int 1) k p1) p2)) p3) pos) (tRevA X.K te) := by
  refine ⟨fun pins s σ H Q I h => ?_⟩
  refine Subscript_ (thn (he.run pins s σ H _ I h) fun v s1 ⟨x, H1, I1, r1, q1⟩ => ?_)
  obtain ⟨a, xs, ex, q1⟩ := q1
  subst ex
  cases r1
  have hst : PO X (some (.UnaryOp .USub (.Constant (.int 1) k p1) p2)) (tPart (tUn (rU fun i => .int (-i)) (tC (.int 1)))) := po_some (pe_un un_neg pe_int)
  refine wpAny_Slice (thn (po_none.run pins s1 σ H1 (fun o H2 => o = none ∧ H2 = H1) I1 ⟨rfl, rfl⟩) fun vl s2 ⟨l, H2, I2, pl, el, e2⟩ => ?_)
  subst el e2
  refine thn (po_none.run pins s2 σ H2 (fun o H3 => o = none ∧ H3 = H2) I2 ⟨rfl, rfl⟩) fun vu s3 ⟨u, H3, I3, pu, eu, e3⟩ => ?_
  subst eu e3
  refine thn (hst.run pins s3 σ H3 (fun o H4 => o = some (-1) ∧ H4 = H3) I3 ⟨1, rfl, -1, rfl, rfl, rfl⟩) fun vs s4 ⟨o, H4, I4, ps, eo, e4⟩ => ?_
  subst eo e4
  have I5 : L2.Inv X pins σ H4 { s4 with heap := s4.heap.push { cls := .type "slice", data := .fields #[vl, vu, vs] } } := I4.kept (t' := s4.toks) fun b ob q => Heap.get?_push_of_some _ q
  show wpAny (model X.prog X.w) X.A (subscriptTail e (.Slice none none (some (.UnaryOp .USub (.Constant (.int 1) k p1) p2)) p3) (.ref a) (.ref s4.heap.objs.size)) (EP X pins σ Q) X.xe { s4 with heap := s4.heap.push { cls := .type "slice", data := .fields #[vl, vu, vs] } }
  rcases q1 with ⟨hx, q⟩ | ⟨hx, q⟩
  · obtain ⟨its, r, ht, hz⟩ := I5.list hx
    have hlen := r.length
    refine tail_any (ops := [.ref a, .ref s4.heap.objs.size]) ht.isList.typeIs (PySem.slot_list_getitem.lookup) ?_ (by with_unfolding_all rfl)
    refine wpAny_getItem_list_slice ht.isList (Heap.IsSliceOf.new _ vl vu vs) pl pu ps (by decide) ?_ (by rw [List.size_toArray]; omega)
    rw [PySem.W.krv_pick]
    refine ⟨.ref _, _, I5.laid (t' := s4.toks) (o := .lst xs.reverse) (fun b ob q => Heap.get?_push_of_some _ q) (Nat.le_refl _) ?_, rfl, q _ (I5.hok.fresh (Nat.le_refl _))⟩
    exact ⟨by rw [List.length_reverse]; exact hz, _, 0, r.reverse, Heap.get?_push_size _ rfl⟩
  · obtain ⟨its, r, ht, hz⟩ := I5.tuple hx
    have hlen := r.length
    refine tail_any (ops := [.ref a, .ref s4.heap.objs.size]) ht.typeIs (PyProof.Rows.slot_tuple_getitem.lookup) ?_ (by with_unfolding_all rfl)
    refine getItem_tuple_rev ht (Heap.IsSliceOf.new _ vl vu vs) pl pu ps ?_ (by rw [List.size_toArray]; omega)
    refine ⟨.ref _, _, I5.laid (t' := s4.toks) (o := .tup xs.reverse) (fun b ob q => Heap.get?_push_of_some _ q) (Nat.le_refl _) ?_, rfl, q _ (I5.hok.fresh (Nat.le_refl _))⟩
    exact ⟨by rw [List.length_reverse]; exact hz, _, r.reverse, IsTup.new _ _⟩
end
end PF

/-! PFE: enumerate over a list or a tuple. -/
namespace PF
open PySem PySem.Spec PyProof.Rows L2
theorem enum_new1 {v : Value} {o : PySem.Obj} {H : Heap → Prop} (B : PySem.Begins v o H) :
    Meets (Builtin.«enumerate.__new__» ⟨[.type "enumerate", v], []⟩) (fun _ R s => H s.heap ∧
      R (.ok (.ret (.ref (s.heap.push o).objs.size))) { s with heap := (s.heap.push o).push { cls := .type "enumerate", data := .fields #[.none, .bool false, .ref s.heap.objs.size, rawInt 0, .none, .none] } }) :=
  .of_wp fun prog w A R s h => by
    obtain ⟨hp, g, d, tk, os⟩ := s; obtain ⟨h1, h⟩ := h
    have hsub := sub_enumerate
    have q1 : ∀ {A' : Around} {E : Value → Shared → Prop} {Q : Value → Shared → Prop}, Q (.ref hp.objs.size) ⟨hp.push o, g, d, tk, os⟩ → wpAny (model prog w) A' (pyIter v) Q E ⟨hp, g, d, tk, os⟩ :=
      fun q => B.iter prog w _ _ ⟨hp, g, d, tk, os⟩ _ h1 q
    wp_walk using q1
    refine wpAny_stack_any fun st => wpAny_pure ?_
    split
    · rename_i c _ _ _ _ _
      cases (c == Value.type "enumerate")
      · wp_walk using q1
        exact ⟨_, rfl, h⟩
      · wp_walk using q1
        exact ⟨_, rfl, h⟩
    · wp_walk using q1
      exact ⟨_, rfl, h⟩
section
variable {prog : Program} {w : World} {A : Around} {E : Value → Shared → Prop} {s : Shared}
theorem enum1_begins {v : Value} {o : PySem.Obj} {H : Heap → Prop} {Q : Value → Shared → Prop} (B : PySem.Begins v o H) (h1 : H s.heap)
    (h : ∀ h', IsEnum h' (s.heap.objs.size + 1) s.heap.objs.size 0 .none → h'.get? s.heap.objs.size = some o → h'.objs.size = s.heap.objs.size + 2 →
      (∀ b o, s.heap.get? b = some o → h'.get? b = some o) → Q (.ref (s.heap.objs.size + 1)) { s with heap := h' }) :
    wpAny (model prog w) A (call (.type "enumerate") [v]) Q E s := by
  refine callType_new F.called_enumerate (by decide) (F.typeCall_enumerate_1 _) (F.newCall_enumerate_1 _) (fun obj => F.args_object_init_2 obj _) F.entry_enumerate_new
    (enum_new1 B) ⟨h1, ?_⟩
  have hz : (s.heap.push o).objs.size = s.heap.objs.size + 1 := Heap.size_push ..
  show _ ∧ _
  rw [hz]
  have he : IsEnum ((s.heap.push o).push { cls := .type "enumerate", data := .fields #[.none, .bool false, .ref s.heap.objs.size, rawInt 0, .none, .none] }) (s.heap.objs.size + 1) s.heap.objs.size 0 .none := by
    have := Heap.get?_push_size (s.heap.push o) (o := { cls := .type "enumerate", data := .fields #[.none, .bool false, .ref s.heap.objs.size, rawInt 0, .none, .none] }) rfl
    rw [hz] at this; exact this
  refine ⟨⟨_, he, rfl⟩, h _ he (Heap.get?_push_of_some _ (Heap.get?_push_size _ B.free)) (by rw [Heap.size_push, hz]) fun b o x => Heap.get?_push_of_some _ (Heap.get?_push_of_some _ x)⟩
end
/-- the tuple at a, each item in a new pair with its place -/
def IteT (K : PySem.W.Frag) (a : Addr) : It :=
  ⟨fun i H => ∃ (xs : List V) (x : V), SqT K H a xs ∧ xs[i]? = some x, fun i H v H' => ∃ T x, v = .ref T ∧ H T = none ∧ H' = upd H T (.tup [.int (i : Nat), x]) ∧ ∀ xs, SqT K H a xs → xs[i]? = some x, fun i H => ∃ xs : List V, SqT K H a xs ∧ xs.length = i⟩
theorem turn_enumT {P : Program} {w : World} {K : PySem.W.Frag} {elts : List Expr} {kk : Nat} {tpos : Pos} (a e it : Addr) :
    Turn P w K (.Tuple elts kk tpos) (IteT K a) [e, it] e (fun i h => (∃ old, IsEnum h e it ((i : Nat) : Int) old) ∧ h.IsTupleIter it a i ∧ e ≠ it ∧ e ≠ a ∧ a ≠ it) where
  mem := by simp
  obj := fun i h st b hb => by
    obtain ⟨⟨old, he⟩, ⟨o, ho, hc, hd⟩, _⟩ := st
    have e' : b = e ∨ b = it := by simpa using hb
    rcases e' with z | z
    · rw [z]; exact ⟨_, he, fun v q => nomatch q⟩
    · rw [z]; exact ⟨o, ho, fun v q => by rw [hd] at q; cases q⟩
  keep := fun i h h' st k => let ⟨⟨old, he⟩, hi, hne⟩ := st; ⟨⟨old, k e (by simp) _ he⟩, hi.at fun o q => k it (by simp) o q, hne⟩
  item := by
    intro X hP hw hK hc i pins s σ H E I hf st hg
    subst hP hw hK
    obtain ⟨⟨old, he⟩, hit, hne, hea, hai⟩ := st
    obtain ⟨xs, x, hq, hx⟩ := hg
    obtain ⟨its, rv, p, hz⟩ := I.tuple hq
    obtain ⟨u, hu, ru⟩ := rv.get hx
    have hel : e < s.heap.objs.size := Heap.lt_size he
    have hil : it < s.heap.objs.size := by obtain ⟨_, q, _⟩ := hit; exact Heap.lt_size q
    have hil2 : i < its.toArray.size := by
      have := rv.length
      obtain ⟨h1, _⟩ := List.getElem?_eq_some_iff.mp hx
      simp
      omega
    refine wpAny_pyNext_enum_itemD (Draws.tuple (A := X.A.in1) (show X.A.in1.handled = none from I.ok.hd hc) it a hai its.toArray) he ⟨hit, p⟩ hil2 hne (by simp; exact ⟨hne, hea⟩) fun x' h' tk hP' ho hst hT hsz hk => ?_
    have ex : x' = u := by
      have : its.toArray[i]? = some u := by simpa using hu
      rw [this] at hP'
      exact (Option.some.inj hP').symm
    subst ex
    refine ⟨_, rfl, wpAny_letOwnedTupleGo_enum (s := { s with heap := h', toks := tk + 1 }) ho fun h'' he' sb => ?_⟩
    have hT2 : h''.get? s.heap.objs.size = some { cls := .type "tuple", data := .seq #[.int i tk, x'] } := (sb.2 _ (Nat.ne_of_gt hel)).trans hT
    have new : ObjOk X.prog X.w (upd H s.heap.objs.size (.tup [.int (i : Nat), x])) h'' s.heap.objs.size (.tup [.int (i : Nat), x]) :=
      ⟨by show 2 ≤ sizeLine; decide, [.int i tk, x'], .cons ⟨_, rfl⟩ (.cons ru .nil), ⟨_, hT2, rfl, _, rfl⟩⟩
    have I1 : Inv X pins σ (upd H s.heap.objs.size (.tup [.int (i : Nat), x])) { s with heap := h'', toks := tk + 1 } :=
      I.turnedNew (t' := tk + 1) (ch := [e, it]) (fun b ob hb q => (sb.2 b (fun z => hb (by simp [z]))).trans (hk b ob (fun z => hb (by simp [z])) (fun z => hb (by simp [z])) q)) hf (Nat.le_refl _) new
    refine ⟨.ref s.heap.objs.size, _, I1, rfl, ⟨_, x, rfl, I.hok.fresh (Nat.le_refl _), rfl, fun ys hy => by rw [I.tuple_inj hy hq]; exact hx⟩, ⟨⟨x', ?_⟩, hst.1.at fun o q => (sb.2 it (Ne.symm hne)).trans q, hne, hea, hai⟩, fun b hb => ?_⟩
    · have e1 : ((i + 1 : Nat) : Int) = (i : Int) + 1 := by omega
      rw [e1]; exact he'
    · have hb' : b < s.heap.objs.size := by
        have e' : b = e ∨ b = it := by simpa using hb
        rcases e' with z | z
        · rw [z]; exact hel
        · rw [z]; exact hil
      rw [upd_ne (Nat.ne_of_lt hb')]
      exact (hf b hb).1
  done := by
    intro X hP hw hK hc i pins s σ H E I hf st hg
    subst hP hw hK
    obtain ⟨⟨old, he⟩, hit, hne, hea, hai⟩ := st
    obtain ⟨xs, hq, hx⟩ := hg
    obtain ⟨its, rv, p, hz⟩ := I.tuple hq
    obtain ⟨f0, f1, f2, f3, f4, f5⟩ := hf it (by simp)
    have hl := rv.length
    have hge : i = its.toArray.size := by simp; omega
    subst hge
    exact wpAny_pyNext_enum_endD (Draws.tuple (A := X.A.in1) (show X.A.in1.handled = none from I.ok.hd hc) it a hai its.toArray) he ⟨hit, p⟩ fun h' eb => ⟨rfl, I.turned (t' := s.toks) (fun b o hb q => eb b o hb q) f0 f1 f3 f4 f5⟩
  self := fun A i s Q E st h => let ⟨⟨_, he⟩, _⟩ := st; wpAny_pyIter_enum he h
def iEnum2 (K : PySem.W.Frag) (ta : TA) : TI := fun σ H R => ta σ H fun vs H1 => ∃ a xs, vs = [.ref a] ∧ ((SqL K H1 a xs ∧ R (Ite K a) H1) ∨ (SqT K H1 a xs ∧ R (IteT K a) H1))
theorem pi_enum2 {X : Cx} {e : Expr} {ta : TA} {p pos tpos : Pos} {elts : List Expr} {kk : Nat} (hg : Gl X "enumerate") (hm : X.mg "enumerate" = none) (ha : PA X [e] ta) (hs : starEach [e] X.env = [(false, eval e X.env)] := by rfl) :
    PI X (.Tuple elts kk tpos) (.Call (.Name "enumerate" p) [e] [] pos) (iEnum2 X.K ta) := by
  refine ⟨fun pins s σ H R I h => ?_⟩
  refine Call_ (ld_blt I hg hm boot_enumerate (PyProof.Rows.callWith_type1 (thn (ha.run pos pins s σ H _ I h) fun us s1 ⟨vs, H1, I1, r1, q1⟩ => ?_) hs rfl))
  obtain ⟨a, xs, ex, q1⟩ := q1
  subst ex
  cases r1 with
  | cons r rr =>
    cases rr
    cases r
    have fp : ∀ b ∈ [s1.heap.objs.size + 1, s1.heap.objs.size], FpOk X pins H1 b := fun b hb => by
      have e' : b = s1.heap.objs.size + 1 ∨ b = s1.heap.objs.size := by simpa using hb
      have hle : s1.heap.objs.size ≤ b := by
        rcases e' with z | z
        · rw [z]; exact Nat.le_add_right _ _
        · rw [z]; exact Nat.le_refl _
      exact I1.fpOk hle (I1.hok.fresh hle)
    rcases q1 with ⟨hq, q⟩ | ⟨hq, q⟩
    · obtain ⟨its, rv, p', hz⟩ := I1.list hq
      refine call_enumerate_list p'.isList fun h' he hit hsz hk => wpAny_pyIter_enum he ?_
      have I2 : Inv X pins σ H1 { s1 with heap := h' } := I1.kept (t' := s1.toks) hk
      exact ⟨s1.heap.objs.size + 1, [s1.heap.objs.size + 1, s1.heap.objs.size], _, _, H1, rfl, I2, turn_enum a (s1.heap.objs.size + 1) s1.heap.objs.size, ⟨⟨.none, he⟩, hit, Nat.succ_ne_self _⟩, fp, q⟩
    · obtain ⟨its, rv, p', hz⟩ := I1.tuple hq
      obtain ⟨o1, ho1, _⟩ := id p'
      have hlt := Heap.lt_size ho1
      refine enum1_begins (PySem.begins_tuple a its.toArray) (show s1.heap.IsTuple a its.toArray from p') fun h' he hit hsz hk => wpAny_pyIter_enum he ?_
      have I2 : Inv X pins σ H1 { s1 with heap := h' } := I1.kept (t' := s1.toks) hk
      exact ⟨s1.heap.objs.size + 1, [s1.heap.objs.size + 1, s1.heap.objs.size], _, _, H1, rfl, I2, turn_enumT a (s1.heap.objs.size + 1) s1.heap.objs.size, ⟨⟨.none, he⟩, ⟨_, hit, rfl, rfl⟩, Nat.succ_ne_self _, Nat.ne_of_gt (Nat.lt_succ_of_lt hlt), Nat.ne_of_lt hlt⟩, fp, q⟩
theorem walk_enumT {K : PySem.W.Frag} {a : Addr} {xs : List V} : Walk (IteT K a) xs.length (fun H => SqT K H a xs) (YPair (fun i => some (.int (i : Nat))) (fun i => xs[i]?)) := by
  refine ⟨fun i _ hi q => ⟨xs, xs[i], q, by simp [hi]⟩, fun _ q => ⟨xs, q, rfl⟩, fun i H v H' _ q y => ?_⟩
  obtain ⟨T, x, h1, h2, h3, h4⟩ := y
  exact ⟨T, .int (i : Nat), x, h1, h2, h3, rfl, h4 xs q⟩
end PF

/-! PF3: the operations on data, each with its rule over the abstract heap. -/
namespace PF
open PySem PySem.Spec PyProof.Rows L2
section
variable {K : PySem.W.Frag} {H F : Hp} {x y : V} {d : PyData} {ds : List PyData} {Q : VK}
/-- an operand: data, or a name's own list as it stands -/
def Opd (K : PySem.W.Frag) (F H : Hp) (x : V) (d : PyData) : Prop := Dq K F x d ∨ (∃ p vs ds, x = .ref p ∧ d = .list ds ∧ H p = some (.lst vs) ∧ DqAll K F vs ds) ∨ ∃ p ps kvs, x = .ref p ∧ d = .dict kvs ∧ H p = some (.dK ps) ∧ DqKV K F ps kvs
/-- what is wanted of a thing just made -/
def Made (K : PySem.W.Frag) (H F : Hp) (r : Sl) (Q : VK) : Prop := ∀ v H' F', Same F F' → Same F' H' → Same H H' → NFS H H' → (∀ b, F' b ≠ none → F b ≠ none ∨ H b = none) → RV K H H' F' v r → Q v H'
theorem Made.v (m : Made K H F (.v d) Q) (s : Same F H) (q : Dq K F x d) : Q x H := m x H F (Same.refl _) s (Same.refl _) (.refl _) (fun _ h => .inl h) q
theorem Made.o {p : Addr} {vs : List V} (m : Made K H F (.o ds) Q) (s : Same F H) (q : DqAll K F vs ds) (hp : H p = none) : Q (.ref p) (upd H p (.lst vs)) := by
  have fp : F p = none := s.free hp
  refine m _ _ F (Same.refl _) (fun b o e => ?_) (fun b o e => ?_) (NFS.upd NL.lst) (fun _ h => .inl h) ⟨p, vs, rfl, hp, fp, upd_same, q⟩
  · rw [upd_ne (ne_of_none e fp)]
    exact s b o e
  · rw [upd_ne (ne_of_none e hp)]
    exact e
theorem Made.t {p : Addr} {vs : List V} (m : Made K H F (.v (.tuple ds)) Q) (s : Same F H) (q : DqAll K F vs ds) (hp : H p = none) : Q (.ref p) (upd H p (.tup vs)) := by
  have fp : F p = none := s.free hp
  have m1 : Same F (upd F p (.tup vs)) := same_upd1 fp
  refine m _ _ (upd F p (.tup vs)) m1 (fun b o e => ?_) (fun b o e => ?_) (NFS.upd NL.tup) (fun b h => ?_) (.tup (.inl (.inl upd_same)) (dpAllMono m1 _ q))
  · by_cases hb : b = p
    · subst hb
      rw [upd_same] at e ⊢
      exact e
    · rw [upd_ne hb] at e ⊢
      exact s b o e
  · rw [upd_ne (ne_of_none e hp)]
    exact e
  · by_cases hb : b = p
    · subst hb
      exact .inr hp
    · rw [upd_ne hb] at h
      exact .inl h
theorem opd_int {i : Int} (h : Opd K F H x (.int i)) : x = .int i := by
  rcases h with h | ⟨_, _, _, _, e, _⟩ | ⟨_, _, _, _, e, _⟩
  · cases h
    rfl
  · cases e
  · cases e
theorem opd_bool {k : Bool} (h : Opd K F H x (.bool k)) : x = .bl k := by
  rcases h with h | ⟨_, _, _, _, e, _⟩ | ⟨_, _, _, _, e, _⟩
  · cases h
    rfl
  · cases e
  · cases e
theorem opd_str {z : Str} (h : Opd K F H x (.str z)) : x = .str z := by
  rcases h with h | ⟨_, _, _, _, e, _⟩ | ⟨_, _, _, _, e, _⟩
  · cases h
    rfl
  · cases e
  · cases e
theorem opd_none (h : Opd K F H x .none) : x = .non := by
  rcases h with h | ⟨_, _, _, _, e, _⟩ | ⟨_, _, _, _, e, _⟩
  · cases h
    rfl
  · cases e
  · cases e
theorem opd_list (s : Same F H) (h : Opd K F H x (.list ds)) : ∃ p vs, x = .ref p ∧ RdL K H p vs ∧ DqAll K F vs ds := by
  rcases h with h | ⟨p, vs, es, e1, e, h1, h2⟩ | ⟨_, _, _, _, e, _⟩
  · cases h with
    | lst h1 h2 => exact ⟨_, _, rfl, rdlMono s h1, h2⟩
  · cases e
    exact ⟨p, vs, e1, .inl (.inl h1), h2⟩
  · cases e
theorem opd_tup (s : Same F H) (h : Opd K F H x (.tuple ds)) : ∃ p vs, x = .ref p ∧ SqT K H p vs ∧ DqAll K F vs ds := by
  rcases h with h | ⟨_, _, _, _, e, _⟩ | ⟨_, _, _, _, e, _⟩
  · cases h with
    | tup h1 h2 => exact ⟨_, _, rfl, sqtMono s h1, h2⟩
  · cases e
  · cases e
theorem fnQ_ints {kvs : List (PyData × PyData)} {ns : List Int} (e : intsD (kvs.map (·.1)) = some ns) : fnQ kvs = false := by
  unfold fnQ
  split
  · cases e
  · rfl
theorem opd_ref {kvs : List (PyData × PyData)} (h : Opd K F H x (.dict kvs)) : ∃ p, x = .ref p := by
  rcases h with h | ⟨_, _, _, _, e, _⟩ | ⟨p, ps, es, e1, e, h1, h2⟩
  · cases h <;> exact ⟨_, rfl⟩
  · cases e
  · exact ⟨p, e1⟩
theorem opd_dict {kvs : List (PyData × PyData)} (s : Same F H) (h : Opd K F H x (.dict kvs)) (hq : fnQ kvs = false) : ∃ p ps, x = .ref p ∧ Rd H p (.dK ps) ∧ DqKV K F ps kvs := by
  rcases h with h | ⟨_, _, _, _, e, _⟩ | ⟨p, ps, es, e1, e, h1, h2⟩
  · cases h with
    | dct h1 h2 => exact ⟨_, _, rfl, rdMono s h1, h2⟩
    | fnc h1 => cases hq
  · cases e
  · cases e
    exact ⟨p, ps, e1, .inl h1, h2⟩
theorem shaped_nd {d : PyData} (h : SeqAt.shaped d = true) : d.hasDict = false := by
  unfold SeqAt.shaped at h
  rw [Bool.and_eq_true] at h
  first | exact PyData.hasDict_of_canLay d h.1 | exact PyData.hasDict_of_canLay d h.2
theorem opd_dq (s : Same F H) (h : Opd K F H x d) : Dq K H x d := by
  rcases h with h | ⟨p, vs, es, rfl, rfl, h1, h2⟩ | ⟨p, ps, es, rfl, rfl, h1, h2⟩
  · exact dpMono s d h
  · exact .lst (.inl (.inl h1)) (dpAllMono s _ h2)
  · exact .dct (.inl h1) (dpKVMono s _ h2)
theorem opd_tru (s : Same F H) (h : Opd K F H x d) {t : Bool} (e : truD d = some t) : TruV K x H t := by
  cases d with
  | none =>
    rw [opd_none h]
    exact (Option.some.inj e).symm
  | bool b =>
    rw [opd_bool h]
    exact (Option.some.inj e).symm
  | int i =>
    rw [opd_int h]
    exact (Option.some.inj e).symm
  | str z =>
    rw [opd_str h]
    simp only [truD] at e
    split at e
    · rename_i hz
      refine ⟨hz, ?_⟩
      rw [← Option.some.inj e]
      by_cases h0 : z.length = 0
      · rw [h0]
        rfl
      · have h1 : ((z.length : Nat) : Int) ≠ 0 := by omega
        rw [bne_iff_ne.mpr h0, bne_iff_ne.mpr h1]
    · cases e
  | list ds =>
    obtain ⟨p, vs, rfl, hr, q⟩ := opd_list s h
    refine .inl ⟨vs, hr.sql, ?_⟩
    have hl := dpAll_len q
    rw [← Option.some.inj e]
    cases vs <;> cases ds <;> first | rfl | (simp at hl)
  | tuple ds =>
    obtain ⟨p, vs, rfl, hr, q⟩ := opd_tup s h
    refine .inr (.inl ⟨vs, hr, ?_⟩)
    have hl := dpAll_len q
    rw [← Option.some.inj e]
    cases vs <;> cases ds <;> first | rfl | (simp at hl)
  | dict kvs => cases e
end
section
variable {X : Cx} {pins : List (Addr × Obj)} {σ : L2.St} {H F : Hp} {s : Shared}
/-- list + list -/
def rCatR (K : PySem.W.Frag) : R2 := fun x y H Q => ∃ l b xs zs, x = .ref l ∧ y = .ref b ∧ RdL K H l xs ∧ RdL K H b zs ∧ xs.length + zs.length ≤ sizeLine ∧ ∀ p, H p = none → Q (.ref p) (upd H p (.lst (xs ++ zs)))
theorem op_catR : OpR X (binaryOp .Add) (rCatR X.K) := by
  intro pins s σ H x y v u Q I rx ry h
  obtain ⟨l, b, xs, zs, rfl, rfl, h1, h2, hz, q⟩ := h
  cases rx
  cases ry
  obtain ⟨_, its, n, r, hl, e⟩ := Inv.rdL I h1
  obtain ⟨_, its2, n2, r2, hl2, e2⟩ := Inv.rdL I h2
  refine PySem.P.add_list e e2 ?_ (by rw [List.size_toArray, List.size_toArray]; omega)
  rw [show its.toArray ++ its2.toArray = (its ++ its2).toArray by simp]
  exact ⟨.ref _, _, Inv.lnew (t' := s.toks) I (r.append r2) (by rw [List.length_append]; omega), rfl, q _ (Inv.fresh I)⟩
theorem str_len (x y : Str) : x.length + y.length ≤ sizeLine → x.length + y.length ≤ sizeLine := id
/-- an operation of two places, by what binD tells -/
def qBin (K : PySem.W.Frag) (op : Operator) : R2 := fun x y H Q => ∃ F a b r, Same F H ∧ Opd K F H x a ∧ Opd K F H y b ∧ binD op a b = some r ∧ Made K H F r Q
theorem op_bin (op : Operator) : OpR X (binaryOp op) (qBin X.K op) := by
  intro pins s σ H x y v u Q I rx ry h
  obtain ⟨F, a, b, r, sm, oa, ob, e, m⟩ := h
  unfold binD at e
  split at e
  · cases e
    cases opd_int oa
    cases opd_int ob
    exact op_add pins s σ H _ _ v u Q I rx ry ⟨_, _, rfl, rfl, m.v sm (.int _)⟩
  · cases e
    cases opd_int oa
    cases opd_int ob
    exact op_sub pins s σ H _ _ v u Q I rx ry ⟨_, _, rfl, rfl, m.v sm (.int _)⟩
  · split at e
    · rename_i hc
      cases e
      cases opd_int oa
      cases opd_int ob
      exact op_mulW pins s σ H _ _ v u Q I rx ry ⟨_, _, rfl, rfl, hc, m.v sm (.int _)⟩
    · cases e
  · split at e
    · rename_i hc
      cases e
      cases opd_int oa
      cases opd_int ob
      exact op_fdivW pins s σ H _ _ v u Q I rx ry ⟨_, _, rfl, rfl, hc, m.v sm (.int _)⟩
    · split at e
      · rename_i hc
        cases e
        cases opd_int oa
        cases opd_int ob
        exact op_fdivM pins s σ H _ _ v u Q I rx ry ⟨_, _, rfl, rfl, hc, m.v sm (.int _)⟩
      · cases e
  · split at e
    · rename_i hc
      cases e
      cases opd_int oa
      cases opd_int ob
      exact op_mod pins s σ H _ _ v u Q I rx ry ⟨_, _, rfl, rfl, hc, m.v sm (.int _)⟩
    · split at e
      · rename_i hc
        cases e
        cases opd_int oa
        cases opd_int ob
        exact op_modN pins s σ H _ _ v u Q I rx ry ⟨_, _, rfl, rfl, hc, m.v sm (.int _)⟩
      · cases e
  · split at e
    · rename_i i j hc
      cases e
      cases opd_int oa
      cases opd_int ob
      obtain ⟨rfl, hc⟩ := hc
      have hc := And.intro trivial hc
      exact op_oneShl pins s σ H _ _ v u Q I rx ry ⟨_, rfl, by rw [Int.toNat_of_nonneg hc.2.1], by
        have h3 := hc.2.2
        by_cases z : j.natAbs = 0
        · omega
        · have := (Nat.log2_lt z).mp h3
          omega, m.v sm (.int _)⟩
    · cases e
  · split at e
    · rename_i hc
      cases e
      cases opd_int oa
      cases opd_int ob
      exact op_pow pins s σ H _ _ v u Q I rx ry ⟨_, _, rfl, rfl, hc, m.v sm (.int _)⟩
    · cases e
  · split at e
    · rename_i hc
      cases e
      cases opd_str oa
      cases opd_str ob
      exact op_add_str pins s σ H _ _ v u Q I rx ry ⟨_, _, rfl, rfl, hc, m.v sm (.str _)⟩
    · cases e
  · split at e
    · rename_i hc
      cases e
      obtain ⟨p, vs, rfl, h1, q1⟩ := opd_list sm oa
      obtain ⟨p2, ws, rfl, h2, q2⟩ := opd_list sm ob
      exact op_catR pins s σ H _ _ v u Q I rx ry ⟨_, _, _, _, rfl, rfl, h1, h2, by rw [dpAll_len q1, dpAll_len q2]; exact hc, fun p hp => m.o sm (dpAll_app q1 q2) hp⟩
    · cases e
  · split at e
    · rename_i hc
      cases e
      obtain ⟨p, vs, rfl, h1, q1⟩ := opd_tup sm oa
      obtain ⟨p2, ws, rfl, h2, q2⟩ := opd_tup sm ob
      have l1 := dpAll_len q1
      have l2 := dpAll_len q2
      refine op_catA pins s σ H _ _ v u Q I rx ry ⟨_, _, _, _, rfl, rfl, h1, h2, by rw [l1, l2]; exact hc, fun z => ?_, fun z1 z2 => ?_, fun _ _ p hp => m.t sm (dpAll_app q1 q2) hp⟩
      · rw [z] at l1
        have z0 := List.eq_nil_of_length_eq_zero l1.symm
        rw [z0, List.nil_append] at m
        rcases ob with ob | ⟨_, _, _, _, e0, _⟩ | ⟨_, _, _, _, e0, _⟩
        · exact m.v sm ob
        · cases e0
        · cases e0
      · rw [z2] at l2
        have z0 := List.eq_nil_of_length_eq_zero l2.symm
        rw [z0, List.append_nil] at m
        rcases oa with oa | ⟨_, _, _, _, e0, _⟩ | ⟨_, _, _, _, e0, _⟩
        · exact m.v sm oa
        · cases e0
        · cases e0
    · cases e
  · split at e
    · rename_i hc
      cases e
      cases opd_int ob
      obtain ⟨p, vs, rfl, h1, q1⟩ := opd_list sm oa
      exact op_repR pins s σ H _ _ v u Q I rx ry ⟨_, _, _, rfl, rfl, h1, (log_rg (by decide) hc.1).1, (log_rg (by decide) hc.1).2, by rw [dpAll_len q1]; exact hc.2, fun p hp => m.o sm (dpAll_rep q1 _) hp⟩
    · cases e
  · split at e
    · rename_i xs k hc
      cases e
      cases opd_int ob
      have oa' := oa
      obtain ⟨p, vs, rfl, h1, q1⟩ := opd_tup sm oa
      have l1 := dpAll_len q1
      have dq : Dq X.K F (.ref p) (.tuple xs) := by
        rcases oa' with o' | ⟨_, _, _, _, e0, _⟩ | ⟨_, _, _, _, e0, _⟩
        · exact o'
        · cases e0
        · cases e0
      have hv : vs = [] → xs = [] := fun z => by
        rw [z] at l1
        exact List.eq_nil_of_length_eq_zero l1.symm
      by_cases h2 : 2 ≤ k ∧ vs ≠ []
      · exact op_repU pins s σ H _ _ v u Q I rx ry ⟨_, _, _, rfl, rfl, h1, h2.2, h2.1, by rw [l1]; exact hc.2, fun p hp => m.t sm (dpAll_rep q1 _) hp⟩
      · have h3 : vs = [] ∨ k ≤ 1 := by
          by_cases z : vs = []
          · exact .inl z
          · refine .inr ?_
            have : ¬ 2 ≤ k := fun y => h2 ⟨y, z⟩
            omega
        refine op_repS pins s σ H _ _ v u Q I rx ry ⟨_, _, _, rfl, rfl, h1, (log_rg (by decide) hc.1).1, (log_rg (by decide) hc.1).2, h3, fun z => ?_, fun z p hp => ?_⟩
        · have e2 : (List.replicate k.toNat xs).flatten = xs := by
            rcases z with z | z
            · rw [hv z]
              simp
            · rw [z]
              simp
          rw [e2] at m
          exact m.v sm dq
        · have e2 : (List.replicate k.toNat xs).flatten = [] := by
            have : k.toNat = 0 := by
              have : k ≠ 1 := fun y => z (.inr y)
              rcases h3 with y | y
              · exact absurd (.inl y) z
              · omega
            rw [this]
            rfl
          rw [e2] at m
          exact m.t sm .nil hp
    · cases e
  · cases e
/-! ### comparisons -/
def rInT (K : PySem.W.Frag) : R2 := fun x y H Q => ∃ d ds, Dp K H x d ∧ Dp K H y (.tuple ds) ∧ SeqAt.shaped d = true ∧ SeqAt.shaped (.tuple ds) = true ∧ Q (.bl (ds.any fun z => PyData.eqv z d)) H
def rNotInT (K : PySem.W.Frag) : R2 := fun x y H Q => ∃ d ds, Dp K H x d ∧ Dp K H y (.tuple ds) ∧ SeqAt.shaped d = true ∧ SeqAt.shaped (.tuple ds) = true ∧ Q (.bl (!ds.any fun z => PyData.eqv z d)) H
theorem op_inT (hu : X.A.units + 65 < cLine) : OpR X (compareOp .In) (rInT X.K) := by
  intro pins s σ H x y v u Q I rx ry h
  obtain ⟨d, ds, hd, he, sd, se, q⟩ := h
  obtain ⟨as, r1⟩ := Dp.reads I d x v hd rx
  obtain ⟨bs, r2⟩ := Dp.reads I (.tuple ds) y u he ry
  exact SeqAt.in_tuple_reads r2 r1 (SeqAt.canLay_of_shaped se) (SeqAt.canLay_of_shaped sd) (PyProof.Rows.room_in_shaped sd hu) ⟨.bl _, H, I, rfl, q⟩
theorem op_notInT (hu : X.A.units + 65 < cLine) : OpR X (compareOp .NotIn) (rNotInT X.K) := by
  intro pins s σ H x y v u Q I rx ry h
  obtain ⟨d, ds, hd, he, sd, se, q⟩ := h
  obtain ⟨as, r1⟩ := Dp.reads I d x v hd rx
  obtain ⟨bs, r2⟩ := Dp.reads I (.tuple ds) y u he ry
  exact SeqAt.notIn_tuple_reads r2 r1 (SeqAt.canLay_of_shaped se) (SeqAt.canLay_of_shaped sd) (PyProof.Rows.room_in_shaped sd hu) ⟨.bl _, H, I, rfl, q⟩
theorem emp_kv {K : PySem.W.Frag} {F : Hp} {ps : List (L2.Key × V)} {kvs : List (PyData × PyData)} (h : DqKV K F ps kvs) : ps.isEmpty = kvs.isEmpty := by
  cases h <;> rfl
def rEqE : R2 := fun x y H Q => ∃ a b ks, x = .ref a ∧ y = .ref b ∧ Rd H a (.dK ks) ∧ Rd H b (.dK []) ∧ Q (.bl ks.isEmpty) H
def rNeE : R2 := fun x y H Q => ∃ a b ks, x = .ref a ∧ y = .ref b ∧ Rd H a (.dK ks) ∧ Rd H b (.dK []) ∧ Q (.bl !ks.isEmpty) H
theorem emp_len {α β : Type} {a : List α} {b : List β} (h : a.length = b.length) (r : Bool) : (b.length == 0 && r) = (a.isEmpty && r) := by
  cases a <;> cases b <;> simp at h ⊢
theorem op_eqE (hu : X.A.units < cLine) : OpR X (compareOp .Eq) rEqE := by
  intro pins s σ H x y v u Q I rx ry h
  obtain ⟨a, b, ks, rfl, rfl, ea, eb, q⟩ := h
  obtain rfl : v = Value.ref a := rx
  obtain rfl : u = Value.ref b := ry
  obtain ⟨_, ya, va, ra, da⟩ := dk_rd I.hok ea
  obtain ⟨_, yb, vb, rb, db⟩ := dk_rd I.hok eb
  have hb : vb = [] := by
    have := rb.length
    exact List.eq_nil_of_length_eq_zero this.symm
  subst hb
  refine PySem.W.keq_eq (knd := mixKind X.prog X.w) (r := true) ya yb da db hu (fun z => ?_) (fin_bl I q ((emp_len ra.length true).trans (Bool.and_true _)).symm)
  obtain rfl := List.eq_nil_of_length_eq_zero z
  exact .nil
theorem op_neE (hu : X.A.units < cLine) : OpR X (compareOp .NotEq) rNeE := by
  intro pins s σ H x y v u Q I rx ry h
  obtain ⟨a, b, ks, rfl, rfl, ea, eb, q⟩ := h
  obtain rfl : v = Value.ref a := rx
  obtain rfl : u = Value.ref b := ry
  obtain ⟨_, ya, va, ra, da⟩ := dk_rd I.hok ea
  obtain ⟨_, yb, vb, rb, db⟩ := dk_rd I.hok eb
  have hb : vb = [] := by
    have := rb.length
    exact List.eq_nil_of_length_eq_zero this.symm
  subst hb
  refine PySem.W.keq_ne (knd := mixKind X.prog X.w) (r := true) ya yb da db hu (fun z => ?_) (fin_bl I q (congrArg (! ·) ((emp_len ra.length true).trans (Bool.and_true _)).symm))
  obtain rfl := List.eq_nil_of_length_eq_zero z
  exact .nil
/-- a sequence against the empty one -/
def rEqL (K : PySem.W.Frag) : R2 := fun x y H Q => ∃ a b vs, x = .ref a ∧ y = .ref b ∧ SqL K H a vs ∧ SqL K H b [] ∧ Q (.bl vs.isEmpty) H
def rNeL (K : PySem.W.Frag) : R2 := fun x y H Q => ∃ a b vs, x = .ref a ∧ y = .ref b ∧ SqL K H a vs ∧ SqL K H b [] ∧ Q (.bl !vs.isEmpty) H
def rEqT (K : PySem.W.Frag) : R2 := fun x y H Q => ∃ a b vs, x = .ref a ∧ y = .ref b ∧ SqT K H a vs ∧ SqT K H b [] ∧ Q (.bl vs.isEmpty) H
def rNeT (K : PySem.W.Frag) : R2 := fun x y H Q => ∃ a b vs, x = .ref a ∧ y = .ref b ∧ SqT K H a vs ∧ SqT K H b [] ∧ Q (.bl !vs.isEmpty) H
theorem op_eqL (hu : X.A.units < cLine) : OpR X (compareOp .Eq) (rEqL X.K) := by
  intro pins s σ H x y v u Q I rx ry h
  obtain ⟨a, b, vs, rfl, rfl, ea, eb, q⟩ := h
  obtain rfl : v = Value.ref a := rx
  obtain rfl : u = Value.ref b := ry
  obtain ⟨us, r1, p1, _⟩ := I.list ea
  obtain ⟨ws, r2, p2, _⟩ := I.list eb
  cases r2
  cases r1 with
  | nil => exact SeqAt.RcAt.lists (e := fun _ => true) p1.isList p2.isList rfl hu (fun j h1 h2 => absurd h1 (by simp)) _ _ _ _ ⟨.bl true, H, I, rfl, q⟩
  | cons r3 r4 => exact SeqAt.RcAt.lists_lengths p1.isList p2.isList (by simp) hu _ _ _ _ ⟨.bl false, H, I, rfl, q⟩
theorem op_neL (hu : X.A.units < cLine) : OpR X (compareOp .NotEq) (rNeL X.K) := by
  intro pins s σ H x y v u Q I rx ry h
  obtain ⟨a, b, vs, rfl, rfl, ea, eb, q⟩ := h
  obtain rfl : v = Value.ref a := rx
  obtain rfl : u = Value.ref b := ry
  obtain ⟨us, r1, p1, _⟩ := I.list ea
  obtain ⟨ws, r2, p2, _⟩ := I.list eb
  cases r2
  cases r1 with
  | nil => exact SeqAt.RcNeAt.lists (e := fun _ => true) p1.isList p2.isList rfl hu (fun j h1 h2 => absurd h1 (by simp)) _ _ _ _ ⟨.bl false, H, I, rfl, q⟩
  | cons r3 r4 => exact SeqAt.RcNeAt.lists_lengths p1.isList p2.isList (by simp) hu _ _ _ _ ⟨.bl true, H, I, rfl, q⟩
theorem op_eqT (hu : X.A.units < cLine) : OpR X (compareOp .Eq) (rEqT X.K) := by
  intro pins s σ H x y v u Q I rx ry h
  obtain ⟨a, b, vs, rfl, rfl, ea, eb, q⟩ := h
  obtain rfl : v = Value.ref a := rx
  obtain rfl : u = Value.ref b := ry
  obtain ⟨us, r1, p1, _⟩ := I.tuple ea
  obtain ⟨ws, r2, p2, _⟩ := I.tuple eb
  cases r2
  cases r1 with
  | nil => exact SeqAt.RcAt.tuples (e := fun _ => true) p1 p2 hu (fun j h1 h2 => absurd h1 (by simp)) _ _ _ _ ⟨.bl true, H, I, rfl, q⟩
  | cons r3 r4 => exact SeqAt.RcAt.tuples (e := fun _ => true) p1 p2 hu (fun j h1 h2 => absurd h2 (by simp)) _ _ _ _ ⟨.bl false, H, I, rfl, q⟩
theorem op_neT (hu : X.A.units < cLine) : OpR X (compareOp .NotEq) (rNeT X.K) := by
  intro pins s σ H x y v u Q I rx ry h
  obtain ⟨a, b, vs, rfl, rfl, ea, eb, q⟩ := h
  obtain rfl : v = Value.ref a := rx
  obtain rfl : u = Value.ref b := ry
  obtain ⟨us, r1, p1, _⟩ := I.tuple ea
  obtain ⟨ws, r2, p2, _⟩ := I.tuple eb
  cases r2
  cases r1 with
  | nil => exact SeqAt.RcNeAt.tuples (e := fun _ => true) p1 p2 hu (fun j h1 h2 => absurd h1 (by simp)) _ _ _ _ ⟨.bl false, H, I, rfl, q⟩
  | cons r3 r4 => exact SeqAt.RcNeAt.tuples (e := fun _ => true) p1 p2 hu (fun j h1 h2 => absurd h2 (by simp)) _ _ _ _ ⟨.bl true, H, I, rfl, q⟩
theorem emp_all {K : PySem.W.Frag} {F : Hp} {vs : List V} {ds : List PyData} (h : DqAll K F vs ds) : vs.isEmpty = ds.isEmpty := by
  cases h <;> rfl
theorem lex_at (ns ms : List Int) : ∀ (k i : Nat), i + k = min ns.length ms.length → Ob.lexAt (fun j => decide (ns.getD j 0 = ms.getD j 0)) (fun j => decide (ns.getD j 0 < ms.getD j 0)) (decide (ns.length < ms.length)) i k = lexI (ns.drop i) (ms.drop i)
  | 0, i, h => by
    rw [Ob.lexAt_zero]
    by_cases hl : ns.length ≤ ms.length
    · have hi : i = ns.length := by omega
      rw [hi, List.drop_length]
      by_cases h2 : ns.length < ms.length
      · rw [decide_eq_true h2]
        cases e : ms.drop ns.length with
        | nil =>
          have := congrArg List.length e
          rw [List.length_drop, List.length_nil] at this
          omega
        | cons a b => rfl
      · rw [decide_eq_false h2, List.drop_eq_nil_of_le (by omega)]
        rfl
    · have hi : i = ms.length := by omega
      rw [hi, List.drop_length, decide_eq_false (by omega)]
      cases e : ns.drop ms.length with
      | nil =>
        have := congrArg List.length e
        rw [List.length_drop, List.length_nil] at this
        omega
      | cons a b => rfl
  | k + 1, i, h => by
    have h1 : i < ns.length := by omega
    have h2 : i < ms.length := by omega
    rw [Ob.lexAt_succ, lex_at ns ms k (i + 1) (by omega), List.drop_eq_getElem_cons h1, List.drop_eq_getElem_cons h2]
    have g1 : ns.getD i 0 = ns[i] := by rw [List.getD_eq_getElem?_getD, List.getElem?_eq_getElem h1]; rfl
    have g2 : ms.getD i 0 = ms[i] := by rw [List.getD_eq_getElem?_getD, List.getElem?_eq_getElem h2]; rfl
    simp only [g1, g2, decide_eq_true_eq, lexI]
theorem dq_intsD {K : PySem.W.Frag} {F : Hp} : ∀ {es : List PyData} {is : List Int} {vs : List V}, intsD es = some is → DqAll K F vs es → vs = is.map V.int
  | [], is, vs, h, q => by
    cases q
    cases h
    rfl
  | d :: r, is, vs, h, q => by
    cases q with
    | cons a b =>
      cases d with
      | int i =>
        unfold intsD at h
        cases e2 : intsD r with
        | none =>
          rw [e2] at h
          cases h
        | some js =>
          rw [e2] at h
          cases h
          cases a
          rw [dq_intsD e2 b]
          rfl
      | _ => cases h
def rLtT (K : PySem.W.Frag) : R2 := fun x y H Q => ∃ (a b : Addr) (ns ms : List Int), x = .ref a ∧ y = .ref b ∧ SqT K H a (ns.map V.int) ∧ SqT K H b (ms.map V.int) ∧ Q (.bl (lexI ns ms)) H
theorem op_ltT (hu : X.A.units < cLine) : OpR X (compareOp .Lt) (rLtT X.K) := by
  intro pins s σ H x y v u Q I rx ry h
  obtain ⟨a, b, ns, ms, rfl, rfl, ha, hb, q⟩ := h
  cases rx
  cases ry
  obtain ⟨its, r1, p1, _⟩ := I.tuple ha
  obtain ⟨its2, r2, p2, _⟩ := I.tuple hb
  have i1 : IntsAre its ns := Vals.ints r1
  have i2 : IntsAre its2 ms := Vals.ints r2
  have e1 : its.toArray.size = ns.length := by rw [List.size_toArray]; exact i1.length
  have e2 : its2.toArray.size = ms.length := by rw [List.size_toArray]; exact i2.length
  have at1 : ∀ j (h1 : j < its.toArray.size), ∃ t, its.toArray[j] = .int (ns.getD j 0) t := fun j h1 => PyProof.Rows.IntsAre.int_at i1 _ _ (by simp at h1; simp [h1])
  have at2 : ∀ j (h1 : j < its2.toArray.size), ∃ t, its2.toArray[j] = .int (ms.getD j 0) t := fun j h1 => PyProof.Rows.IntsAre.int_at i2 _ _ (by simp at h1; simp [h1])
  have R := Ob.RcOp.tuples_lt (A := X.A) (s := s) (e := fun j => decide (ns.getD j 0 = ms.getD j 0)) (r := fun j => decide (ns.getD j 0 < ms.getD j 0)) p1 p2 hu (fun j h1 h2 => by
    obtain ⟨t, et⟩ := at1 j h1
    obtain ⟨t', et'⟩ := at2 j h2
    rw [et, et']
    have z : (ns.getD j 0 == ms.getD j 0) = decide (ns.getD j 0 = ms.getD j 0) := by
      by_cases q : ns.getD j 0 = ms.getD j 0
      · rw [decide_eq_true q]; exact beq_iff_eq.mpr q
      · rw [decide_eq_false q]; exact beq_eq_false_iff_ne.mpr q
    rw [← z]
    exact SeqAt.EqAt.int_int _ _ _ _) (fun j h1 h2 _ => by
    obtain ⟨t, et⟩ := at1 j h1
    obtain ⟨t', et'⟩ := at2 j h2
    rw [et, et']
    exact Ob.RcOp.lt_int _ _ _ _)
  rw [e1, e2, lex_at ns ms _ 0 (Nat.zero_add _)] at R
  exact R _ _ _ _ ⟨.bl _, H, I, rfl, q⟩
def qCmp (K : PySem.W.Frag) (op : CmpOp) : R2 := fun x y H Q => ∃ F a b r, Same F H ∧ Opd K F H x a ∧ Opd K F H y b ∧ cmpD op a b = some r ∧ Q (.bl r) H
theorem op_cmp (hu : X.A.units + 65 < cLine) (op : CmpOp) : OpR X (compareOp op) (qCmp X.K op) := by
  intro pins s σ H x y v u Q I rx ry h
  obtain ⟨F, a, b, r, sm, oa, ob, e, q⟩ := h
  have da := fun z => Dq.dp _ (shaped_nd z) (opd_dq sm oa)
  have db := fun z => Dq.dp _ (shaped_nd z) (opd_dq sm ob)
  cases op with
  | Eq =>
    unfold cmpD at e
    simp only at e
    split at e
    · rename_i hc
      cases e
      exact op_eqD (by omega) pins s σ H _ _ v u Q I rx ry ⟨_, _, da hc.1, db hc.2, hc.1, hc.2, q⟩
    · split at e
      · split at e
        · cases e
        rename_i hq
        cases e
        obtain ⟨p1, ps1, rfl, h1, k1⟩ := opd_dict sm oa (by simpa using hq)
        obtain ⟨p2, ps2, rfl, h2, k2⟩ := opd_dict sm ob rfl
        cases k2
        refine op_eqE (by omega) pins s σ H _ _ v u Q I rx ry ⟨_, _, _, rfl, rfl, h1, h2, ?_⟩
        have : ps1.isEmpty = _ := emp_kv k1
        rw [this]
        exact q
      · cases e
        obtain ⟨p1, vs1, rfl, h1, k1⟩ := opd_list sm oa
        obtain ⟨p2, vs2, rfl, h2, k2⟩ := opd_list sm ob
        cases k2
        refine op_eqL (by omega) pins s σ H _ _ v u Q I rx ry ⟨_, _, _, rfl, rfl, h1.sql, h2.sql, ?_⟩
        rw [emp_all k1]
        exact q
      · cases e
        obtain ⟨p1, vs1, rfl, h1, k1⟩ := opd_tup sm oa
        obtain ⟨p2, vs2, rfl, h2, k2⟩ := opd_tup sm ob
        cases k2
        refine op_eqT (by omega) pins s σ H _ _ v u Q I rx ry ⟨_, _, _, rfl, rfl, h1, h2, ?_⟩
        rw [emp_all k1]
        exact q
      · cases e
        cases opd_str oa
        cases opd_str ob
        refine op_eq pins s σ H _ _ v u Q I rx ry ⟨rfl, ?_⟩
        have dd : ∀ x y : Str, decide (V.str x = V.str y) = decide (x = y) := fun x y => decide_eq_decide.mpr ⟨fun z => by cases z; rfl, fun z => by rw [z]⟩
        rw [dd]
        exact q
      · cases e
  | NotEq =>
    unfold cmpD at e
    simp only at e
    split at e
    · rename_i hc
      cases e
      exact op_neD (by omega) pins s σ H _ _ v u Q I rx ry ⟨_, _, da hc.1, db hc.2, hc.1, hc.2, q⟩
    · split at e
      · split at e
        · cases e
        rename_i hq
        cases e
        obtain ⟨p1, ps1, rfl, h1, k1⟩ := opd_dict sm oa (by simpa using hq)
        obtain ⟨p2, ps2, rfl, h2, k2⟩ := opd_dict sm ob rfl
        cases k2
        refine op_neE (by omega) pins s σ H _ _ v u Q I rx ry ⟨_, _, _, rfl, rfl, h1, h2, ?_⟩
        have : ps1.isEmpty = _ := emp_kv k1
        rw [this]
        exact q
      · cases e
        obtain ⟨p1, vs1, rfl, h1, k1⟩ := opd_list sm oa
        obtain ⟨p2, vs2, rfl, h2, k2⟩ := opd_list sm ob
        cases k2
        refine op_neL (by omega) pins s σ H _ _ v u Q I rx ry ⟨_, _, _, rfl, rfl, h1.sql, h2.sql, ?_⟩
        rw [emp_all k1]
        exact q
      · cases e
        obtain ⟨p1, vs1, rfl, h1, k1⟩ := opd_tup sm oa
        obtain ⟨p2, vs2, rfl, h2, k2⟩ := opd_tup sm ob
        cases k2
        refine op_neT (by omega) pins s σ H _ _ v u Q I rx ry ⟨_, _, _, rfl, rfl, h1, h2, ?_⟩
        rw [emp_all k1]
        exact q
      · cases e
        cases opd_str oa
        cases opd_str ob
        refine op_ne pins s σ H _ _ v u Q I rx ry ⟨rfl, ?_⟩
        have dd : ∀ x y : Str, decide (V.str x = V.str y) = decide (x = y) := fun x y => decide_eq_decide.mpr ⟨fun z => by cases z; rfl, fun z => by rw [z]⟩
        rw [dd]
        exact q
      · cases e
  | Lt =>
    unfold cmpD at e
    simp only at e
    split at e
    · cases e
      cases opd_int oa
      cases opd_int ob
      exact op_lt pins s σ H _ _ v u Q I rx ry ⟨_, _, rfl, rfl, q⟩
    · obtain ⟨is, e1, e⟩ := Option.bind_eq_some_iff.mp e
      obtain ⟨js, e2, e⟩ := Option.bind_eq_some_iff.mp e
      cases e
      have qa := opd_dq sm oa
      have qb := opd_dq sm ob
      cases qa with
      | tup h1 h2 =>
        cases qb with
        | tup g1 g2 =>
          have y1 := dq_intsD e1 h2
          have y2 := dq_intsD e2 g2
          subst y1
          subst y2
          exact op_ltT (by omega) pins s σ H _ _ v u Q I rx ry ⟨_, _, is, js, rfl, rfl, h1, g1, q⟩
    · cases e
  | LtE =>
    unfold cmpD at e
    simp only at e
    split at e
    · cases e
      cases opd_int oa
      cases opd_int ob
      exact op_le pins s σ H _ _ v u Q I rx ry ⟨_, _, rfl, rfl, q⟩
    · cases e
  | Gt =>
    unfold cmpD at e
    simp only at e
    split at e
    · cases e
      cases opd_int oa
      cases opd_int ob
      exact op_gt pins s σ H _ _ v u Q I rx ry ⟨_, _, rfl, rfl, q⟩
    · cases e
  | GtE =>
    unfold cmpD at e
    simp only at e
    split at e
    · cases e
      cases opd_int oa
      cases opd_int ob
      exact op_ge pins s σ H _ _ v u Q I rx ry ⟨_, _, rfl, rfl, q⟩
    · cases e
  | Is =>
    unfold cmpD at e
    simp only at e
    split at e
    · cases opd_none ob
      cases e
      refine op_isN pins s σ H _ _ v u Q I rx ry ⟨rfl, ?_⟩
      cases a with
      | none =>
        cases opd_none oa
        exact q
      | bool _ =>
        cases opd_bool oa
        exact q
      | int _ =>
        cases opd_int oa
        exact q
      | str _ =>
        cases opd_str oa
        exact q
      | list _ =>
        obtain ⟨p, vs, rfl, _⟩ := opd_list sm oa
        exact q
      | tuple _ =>
        obtain ⟨p, vs, rfl, _⟩ := opd_tup sm oa
        exact q
      | dict _ =>
        obtain ⟨p, rfl⟩ := opd_ref oa
        exact q
    · split at e
      · cases e
        cases opd_bool oa
        cases opd_bool ob
        exact op_isBl pins s σ H _ _ v u Q I rx ry ⟨_, _, rfl, rfl, q⟩
      · cases e
    · cases e
  | IsNot =>
    unfold cmpD at e
    simp only at e
    split at e
    · cases opd_none ob
      cases e
      refine op_notN pins s σ H _ _ v u Q I rx ry ⟨rfl, ?_⟩
      cases a with
      | none =>
        cases opd_none oa
        exact q
      | bool _ =>
        cases opd_bool oa
        exact q
      | int _ =>
        cases opd_int oa
        exact q
      | str _ =>
        cases opd_str oa
        exact q
      | list _ =>
        obtain ⟨p, vs, rfl, _⟩ := opd_list sm oa
        exact q
      | tuple _ =>
        obtain ⟨p, vs, rfl, _⟩ := opd_tup sm oa
        exact q
      | dict _ =>
        obtain ⟨p, rfl⟩ := opd_ref oa
        exact q
    · split at e
      · cases e
        cases opd_bool oa
        cases opd_bool ob
        exact op_notBl pins s σ H _ _ v u Q I rx ry ⟨_, _, rfl, rfl, q⟩
      · cases e
    · cases e
  | In =>
    unfold cmpD at e
    simp only at e
    split at e
    · split at e
      · rename_i hc
        cases e
        exact op_inD hu pins s σ H _ _ v u Q I rx ry ⟨_, _, da hc.1, db hc.2, hc.1, hc.2, q⟩
      · cases e
    · split at e
      · rename_i hc
        cases e
        exact op_inT hu pins s σ H _ _ v u Q I rx ry ⟨_, _, da hc.1, db hc.2, hc.1, hc.2, q⟩
      · cases e
    · cases e
  | NotIn =>
    unfold cmpD at e
    simp only at e
    split at e
    · split at e
      · rename_i hc
        cases e
        exact op_notInD hu pins s σ H _ _ v u Q I rx ry ⟨_, _, da hc.1, db hc.2, hc.1, hc.2, q⟩
      · cases e
    · split at e
      · rename_i hc
        cases e
        exact op_notInT hu pins s σ H _ _ v u Q I rx ry ⟨_, _, da hc.1, db hc.2, hc.1, hc.2, q⟩
      · cases e
    · cases e
/-! ### subscripts -/
theorem atI_len {α β : Type} {xs : List α} {ys : List β} (h : xs.length = ys.length) {i : Int} {y : β} (e : atI ys i = some y) : ∃ j, ixN xs.length i = some j ∧ ys[j]? = some y := by
  unfold atI at e
  rw [← h] at e
  cases q : ixN xs.length i with
  | none =>
    rw [q] at e
    cases e
  | some j =>
    rw [q] at e
    exact ⟨j, rfl, e⟩
theorem dpAll_at {K : PySem.W.Frag} {vs : List V} {ds : List PyData} {i : Int} {d : PyData} (q : DqAll K F vs ds) (e : atI ds i = some d) : ∃ v, atI vs i = some v ∧ Dq K F v d := by
  obtain ⟨j, e1, e2⟩ := atI_len (dpAll_len q) e
  obtain ⟨v, e3, q3⟩ := dpAll_get q e2
  refine ⟨v, ?_, q3⟩
  unfold atI
  rw [e1]
  exact e3
def qIx (K : PySem.W.Frag) : R2 := fun x y H Q => ∃ F a b r, Same F H ∧ Opd K F H x a ∧ Opd K F H y b ∧ ixD a b = some r ∧ ∀ v, Dq K F v r → Q v H
theorem ix_ok : IxR X (qIx X.K) := by
  intro value slice pins s σ H x y v u Q I rx ry h hs
  obtain ⟨F, a, b, r, sm, oa, ob, e, m⟩ := h
  unfold ixD at e
  split at e
  · cases opd_int ob
    obtain ⟨p, vs, rfl, h1, q1⟩ := opd_list sm oa
    obtain ⟨w, e1, q2⟩ := dpAll_at q1 e
    exact ix_list value slice pins s σ H _ _ v u Q I rx ry ⟨_, _, _, w, rfl, rfl, h1.sql, e1, m w q2⟩ hs
  · cases opd_int ob
    obtain ⟨p, vs, rfl, h1, q1⟩ := opd_tup sm oa
    obtain ⟨w, e1, q2⟩ := dpAll_at q1 e
    exact ix_tup value slice pins s σ H _ _ v u Q I rx ry ⟨_, _, _, w, rfl, rfl, h1, e1, m w q2⟩ hs
  · cases opd_int ob
    cases opd_str oa
    split at e
    · rename_i hz
      cases q : atI _ _ with
      | none =>
        rw [q] at e
        cases e
      | some c =>
        rw [q] at e
        cases e
        exact ix_str value slice pins s σ H _ _ v u Q I rx ry ⟨_, _, _, rfl, rfl, hz, q, m _ (.str _)⟩ hs
    · cases e
  · cases e
def qSl (K : PySem.W.Frag) : V → Option Int → Option Int → Hp → VK → Prop := fun x lo hi H Q => ∃ F a r, Same F H ∧ Opd K F H x a ∧ slD a lo hi = some r ∧ Made K H F r Q
theorem sl_ok : SlR X (qSl X.K) := by
  intro pins s σ H x v vl vu lo hi sl Q I rx hs pl pu h
  obtain ⟨F, a, r, sm, oa, e, m⟩ := h
  unfold slD at e
  split at e
  · cases e
    obtain ⟨p, vs, rfl, h1, q1⟩ := opd_list sm oa
    exact sl_list pins s σ H _ v vl vu lo hi sl Q I rx hs pl pu ⟨_, _, rfl, h1.sql, fun p hp => m.o sm (dpAll_cut lo hi q1) hp⟩
  · cases e
    obtain ⟨p, vs, rfl, h1, q1⟩ := opd_tup sm oa
    refine sl_tupA pins s σ H _ v vl vu lo hi sl Q I rx hs pl pu ⟨_, _, rfl, h1, fun z => ?_, fun _ p hp => m.t sm (dpAll_cut lo hi q1) hp⟩
    have hc : ∀ es : List PyData, vs.length = es.length → cutL es lo hi = es := fun es hl => by
      unfold cutL
      rw [← hl, z.1, z.2, List.drop_zero, Nat.sub_zero, hl]
      exact List.take_length
    rw [hc _ (dpAll_len q1)] at m
    rcases oa with oa | ⟨_, _, _, _, e0, _⟩ | ⟨_, _, _, _, e0, _⟩
    · exact m.v sm oa
    · cases e0
    · cases e0
  · cases e
end
end PF

/-! PF3d: a dict's entries; calls that take a dict. -/
namespace PF
open PySem PySem.Spec PyProof.Rows L2
section
variable {K : PySem.W.Frag} {F H : Hp}
theorem DqKV.len : ∀ {ps : List (L2.Key × V)} {kvs : List (PyData × PyData)}, DqKV K F ps kvs → ps.length = kvs.length
  | _, [], h => by
    cases h
    rfl
  | _, (y, e) :: r, h => by
    cases h with
    | cons _ _ h2 => rw [List.length_cons, List.length_cons, h2.len]
theorem DqKV.any {k : L2.Key} : ∀ {ps : List (L2.Key × V)} {kvs : List (PyData × PyData)}, DqKV K F ps kvs → (ps.any fun kv => decide (kv.1 = k)) = (kvs.any fun p => decide (keyD p.1 = some k))
  | _, [], h => by
    cases h
    rfl
  | _, (y, e) :: r, h => by
    cases h with
    | cons h0 _ h2 =>
      rw [List.any_cons, List.any_cons, h2.any]
      simp only [h0, Option.some.injEq]
theorem DqKV.app : ∀ {ps qs : List (L2.Key × V)} {kvs lvs : List (PyData × PyData)}, DqKV K F ps kvs → DqKV K F qs lvs → DqKV K F (ps ++ qs) (kvs ++ lvs)
  | _, _, [], _, h, h' => by
    cases h
    exact h'
  | _, _, (y, e) :: r, _, h, h' => by
    cases h with
    | cons h0 h1 h2 => exact .cons h0 h1 (h2.app h')
theorem DqKV.putM {k : L2.Key} {v : V} {d : PyData} (q : Dq K F v d) : ∀ {ps : List (L2.Key × V)} {kvs : List (PyData × PyData)}, DqKV K F ps kvs → DqKV K F (ps.map fun kv => if kv.1 = k then (kv.1, v) else kv) (kvs.map fun p => if keyD p.1 = some k then (p.1, d) else p)
  | _, [], h => by
    cases h
    exact .nil
  | _, (y, e) :: r, h => by
    cases h with
    | @cons k' x ps _ _ _ h0 h1 h2 =>
      rw [List.map_cons, List.map_cons]
      by_cases hk : k' = k
      · subst hk
        simp only [h0, if_true]
        exact .cons h0 q (h2.putM q)
      · have h3 : ¬ (some k' = some k) := fun z => hk (Option.some.inj z)
        simp only [h0, if_neg h3, if_neg hk]
        exact .cons h0 h1 (h2.putM q)
theorem DqKV.put {k : L2.Key} {y : PyData} {v : V} {d : PyData} (hk : keyD y = some k) (q : Dq K F v d) {ps : List (L2.Key × V)} {kvs : List (PyData × PyData)} (h : DqKV K F ps kvs) : DqKV K F (putK ps k v) (dput kvs y k d) := by
  unfold putK dput
  rw [h.any]
  split
  · exact h.putM q
  · exact h.app (.cons hk q .nil)
theorem DqKV.merge : ∀ {more : List (L2.Key × V)} {kmore : List (PyData × PyData)} {ps : List (L2.Key × V)} {kvs : List (PyData × PyData)}, DqKV K F more kmore → DqKV K F ps kvs → DqKV K F (mergeK ps more) (mergeD kvs kmore)
  | _, [], _, _, h, h' => by
    cases h
    exact h'
  | _, (y, e) :: r, _, _, h, h' => by
    cases h with
    | cons h0 h1 h2 =>
      unfold mergeK mergeD
      rw [List.foldl_cons, List.foldl_cons]
      simp only [h0]
      exact h2.merge (h'.put h0 h1)
theorem Made.w {p : Addr} {ps : List (L2.Key × V)} {kvs : List (PyData × PyData)} {Q : VK} (m : Made K H F (.w kvs) Q) (s : Same F H) (q : DqKV K F ps kvs) (hp : H p = none) : Q (.ref p) (upd H p (.dK ps)) := by
  have fp : F p = none := s.free hp
  refine m _ _ F (Same.refl _) (fun b o e => ?_) (fun b o e => ?_) (NFS.upd NL.dK) (fun _ h => .inl h) ⟨p, ps, rfl, hp, fp, upd_same, q⟩
  · rw [upd_ne (ne_of_none e fp)]
    exact s b o e
  · rw [upd_ne (ne_of_none e hp)]
    exact e
theorem key_dq {y : PyData} {k : L2.Key} (h : keyD y = some k) : Dq K F (kV k) y := by
  cases y <;> first | cases h | skip
  · exact .int _
  · exact .str _
theorem kv_keys : ∀ {ps : List (L2.Key × V)} {kvs : List (PyData × PyData)}, DqKV K F ps kvs → DqAll K F (ps.map fun kv => kV kv.1) (kvs.map (·.1))
  | _, [], h => by
    cases h
    exact .nil
  | _, (y, e) :: r, h => by
    cases h with
    | cons h0 _ h2 => exact .cons (key_dq h0) (kv_keys h2)
theorem kv_ints : ∀ {ps : List (L2.Key × V)} {kvs : List (PyData × PyData)} {ns : List Int}, DqKV K F ps kvs → intsD (kvs.map (·.1)) = some ns → ps.map (·.1) = ns.map Sum.inl
  | _, [], _, h, e => by
    cases h
    cases e
    rfl
  | _, (y, e0) :: r, ns, h, e => by
    cases h with
    | @cons k x ps _ _ _ h0 _ h2 =>
      cases y with
      | int i =>
        have e : intsD (.int i :: r.map (·.1)) = some ns := e
        unfold intsD at e
        cases e2 : intsD (r.map (·.1)) with
        | none =>
          rw [e2] at e
          cases e
        | some l =>
          rw [e2] at e
          cases e
          cases h0
          rw [List.map_cons, List.map_cons, kv_ints h2 e2]
      | _ => cases e
theorem prs_of : ∀ {xs : List PyData} {vs : List V} {kvs : List (PyData × PyData)}, DqAll K F vs xs → prsD xs = some kvs → Same F H → ∃ (as : List Addr) (ps : List (L2.Key × V)), vs = as.map V.ref ∧ Paired (fun p kv => SqT K H p [kV kv.1, kv.2]) as ps ∧ DqKV K F ps kvs
  | [], _, _, h, e, _ => by
    cases h
    cases e
    exact ⟨[], [], rfl, .nil, .nil⟩
  | .tuple [y, d] :: r, _, kvs, h, e, sm => by
    cases h with
    | cons h1 h2 =>
      unfold prsD at e
      obtain ⟨k, e1, e⟩ := Option.bind_eq_some_iff.mp e
      obtain ⟨l, e2, e⟩ := Option.bind_eq_some_iff.mp e
      cases e
      obtain ⟨as, ps, rfl, g1, g2⟩ := prs_of h2 e2 sm
      cases h1 with
      | @tup p ws _ t1 t2 =>
        cases t2 with
        | @cons x1 r1 _ _ q1 q2 =>
          cases q2 with
          | @cons x2 r2 _ _ q3 q4 =>
            cases q4
            have ex : x1 = kV k := by
              cases y <;> first | cases e1 | skip
              · cases q1
                rfl
              · cases q1
                rfl
            subst ex
            exact ⟨p :: as, (k, x2) :: ps, rfl, .cons (sqtMono sm t1) g1, .cons e1 q3 g2⟩
  | .tuple [] :: r, _, _, _, e, _ => by cases e
  | .tuple [_] :: r, _, _, _, e, _ => by cases e
  | .tuple (_ :: _ :: _ :: _) :: r, _, _, _, e, _ => by cases e
  | .none :: r, _, _, _, e, _ => by cases e
  | .bool _ :: r, _, _, _, e, _ => by cases e
  | .int _ :: r, _, _, _, e, _ => by cases e
  | .str _ :: r, _, _, _, e, _ => by cases e
  | .list _ :: r, _, _, _, e, _ => by cases e
  | .dict _ :: r, _, _, _, e, _ => by cases e
end
section
variable {X : Cx}
theorem call_lenR : CallR X (.builtin "len") (fun xs H Q => ∃ (a : Addr) (kvs : List (L2.Key × V)), xs = [V.ref a] ∧ Rd H a (.dK kvs) ∧ Q (.int kvs.length) H) := by
  intro pins s σ H xs us Q I r h
  obtain ⟨a, kvs, rfl, hd, q⟩ := h
  obtain ⟨u, rfl, rx⟩ := vals1 r
  obtain rfl : u = Value.ref a := rx
  exact d_len I hd fun t s' J => ⟨.int _, H, J, ⟨_, rfl⟩, q⟩
def encK : L2.Key → PyData
  | .inl i => .int i
  | .inr x => .str x
theorem enc_key {P : Program} {w : World} {h : Heap} (k : L2.Key) (key : Value) (e : (mixKind P w).is k key = true) : Reads h key (encK k) [] := by
  rcases keyIs_shape (show keyIs k key = true from e) with ⟨i, t, rfl, rfl⟩ | ⟨x, t, rfl, rfl⟩
  · exact .int i t
  · exact .str x t
theorem key_enc {y : PyData} {k : L2.Key} (h : keyD y = some k) : y = encK k := by
  cases y <;> first | cases h | skip
  · rfl
  · rfl
/-! readings in which no dict stands at sysModules: their texts -/
mutual
inductive Rz (h : Heap) : Value → PyData → Prop
  | non : Rz h .none .none
  | bl (k) : Rz h (.bool k) (.bool k)
  | int (n t) : Rz h (.int n t) (.int n)
  | str (z t) : Rz h (.str z t) (.str z)
  | lst {p ob its n ds} : h.get? p = some ob → ob.cls = .type "list" → ob.data = .seq its n → RzA h its.toList ds → Rz h (.ref p) (.list ds)
  | tup {p ob its n ds} : h.get? p = some ob → ob.cls = .type "tuple" → ob.data = .seq its n → RzA h its.toList ds → Rz h (.ref p) (.tuple ds)
  | dct {p ob es n kvs} : h.get? p = some ob → ob.cls = .type "dict" → ob.data = .dict es n → (p == sysModules) = false → RzE h es.toList kvs → Rz h (.ref p) (.dict kvs)
inductive RzA (h : Heap) : List Value → List PyData → Prop
  | nil : RzA h [] []
  | cons {u us d ds} : Rz h u d → RzA h us ds → RzA h (u :: us) (d :: ds)
inductive RzE (h : Heap) : List DictEntry → List (PyData × PyData) → Prop
  | nil : RzE h [] []
  | cons {e es y d r} : Reads h e.key y [] → Rz h e.val d → RzE h es r → RzE h (e :: es) ((y, d) :: r)
end
section
variable {h : Heap} {prog : Program} {w : World}
mutual
theorem Rz.reads : ∀ {u : Value} {d : PyData}, Rz h u d → ∃ as, Reads h u d as
  | _, _, .non => ⟨_, Reads.none⟩
  | _, _, .bl k => ⟨_, Reads.bool k⟩
  | _, _, .int n t => ⟨_, Reads.int n t⟩
  | _, _, .str z t => ⟨_, Reads.str z t⟩
  | _, _, .lst e1 e2 e3 q => let ⟨_, r⟩ := q.reads; ⟨_, Reads.list e1 e2 e3 r⟩
  | _, _, .tup e1 e2 e3 q => let ⟨_, r⟩ := q.reads; ⟨_, Reads.tuple e1 e2 e3 r⟩
  | _, _, .dct e1 e2 e3 _ q => let ⟨_, r1, r2⟩ := q.reads; ⟨_, Reads.dict e1 e2 e3 r1 r2⟩
theorem RzA.reads : ∀ {us : List Value} {ds : List PyData}, RzA h us ds → ∃ as, ReadsAll h us ds as
  | _, _, .nil => ⟨_, ReadsAll.nil⟩
  | _, _, .cons q r => let ⟨_, q1⟩ := q.reads; let ⟨_, r1⟩ := r.reads; ⟨_, ReadsAll.cons q1 r1⟩
theorem RzE.reads : ∀ {es : List DictEntry} {kvs : List (PyData × PyData)}, RzE h es kvs → ∃ bs, ReadsAll h (es.map (·.key)) (kvs.map (·.1)) [] ∧ ReadsAll h (es.map (·.val)) (kvs.map (·.2)) bs
  | _, _, .nil => ⟨_, ReadsAll.nil, ReadsAll.nil⟩
  | _, _, .cons k q r => let ⟨_, q1⟩ := q.reads; let ⟨_, r1, r2⟩ := r.reads; ⟨_, ReadsAll.cons k r1, ReadsAll.cons q1 r2⟩
end
theorem entries_more {as as' : List Addr} {d d' : Nat} (sub : ∀ c ∈ as, c ∈ as') (hd : d ≤ d') : ∀ {es : List DictEntry} {ts : List Str}, ReprEntriesK prog w as h d es ts → ReprEntriesK prog w as' h d' es ts
  | _, _, .nil => .nil
  | _, _, .cons a b r => .cons ((a.more sub).level_le hd) ((b.more sub).level_le hd) (entries_more sub hd r)
mutual
theorem Rz.text : ∀ {u : Value} {d : PyData}, Rz h u d → d.showable = true → d.shown.length ≤ sizeLine → ∃ bs, ReadAtMost h d.depth bs ∧ ReprK prog w bs h d.depth u d.shown
  | _, _, .non, a, b => ReprK.of_reads Reads.none a (fun _ => List.not_mem_nil) b
  | _, _, .bl k, a, b => ReprK.of_reads (Reads.bool k) a (fun _ => List.not_mem_nil) b
  | _, _, .int n t, a, b => ReprK.of_reads (Reads.int n t) a (fun _ => List.not_mem_nil) b
  | _, _, .str z t, a, b => ReprK.of_reads (Reads.str z t) a (fun _ => List.not_mem_nil) b
  | _, _, .lst (p := p) (its := its) (ds := ds) e1 e2 e3 q, a, b => by
    have full := Rz.lst e1 e2 e3 q
    obtain ⟨as, rd⟩ := full.reads
    have b' : (listText (PyData.shownAll ds)).length ≤ sizeLine := by simpa only [PyData.shown] using b
    obtain ⟨bs, k1, k2⟩ := q.text (by simpa [PyData.showable] using a) fun t ht => Nat.le_trans (listText_mem_le ht) b'
    have out : p ∉ bs := not_mem_of_deeper rd (by simp only [PyData.depth]; omega) k1
    refine ⟨p :: bs, k1.cons rd (by simp only [PyData.depth]; omega), ?_⟩
    simp only [PyData.depth, PyData.shown]
    obtain ⟨l⟩ := its
    cases l with
    | nil =>
      cases q
      simp only [PyData.shownAll, listText_nil]
      exact ReprK.listEmpty e1 e2 e3
    | cons z l => exact ReprK.list e1 e2 e3 out (by simpa using k2.length_eq) fun i y e => k2.item i y (by simpa using e)
  | _, _, .tup (p := p) (ds := ds) e1 e2 e3 q, a, b => by
    have full := Rz.tup e1 e2 e3 q
    obtain ⟨as, rd⟩ := full.reads
    have b' : (tupleText (PyData.shownAll ds)).length ≤ sizeLine := by simpa only [PyData.shown] using b
    obtain ⟨bs, k1, k2⟩ := q.text (by simpa [PyData.showable] using a) fun t ht => Nat.le_trans (tupleText_mem_le ht) b'
    have out : p ∉ bs := not_mem_of_deeper rd (by simp only [PyData.depth]; omega) k1
    refine ⟨p :: bs, k1.cons rd (by simp only [PyData.depth]; omega), ?_⟩
    simp only [PyData.depth, PyData.shown]
    exact ReprK.tuple e1 e2 e3 out k2
  | _, _, .dct (p := p) (es := es) (kvs := kvs) e1 e2 e3 e4 q, a, b => by
    have full := Rz.dct e1 e2 e3 e4 q
    obtain ⟨as, rd⟩ := full.reads
    have b' : (dictText (PyData.shownKv kvs)).length ≤ sizeLine := by simpa only [PyData.shown] using b
    obtain ⟨bs, k1, k2⟩ := q.text (by simpa [PyData.showable] using a) fun t ht => Nat.le_trans (dictText_mem_le ht) b'
    have out : p ∉ bs := not_mem_of_deeper rd (by simp only [PyData.depth]; omega) k1
    refine ⟨p :: bs, k1.cons rd (by simp only [PyData.depth]; omega), ?_⟩
    simp only [PyData.depth, PyData.shown]
    exact ReprK.dict e1 e2 e3 e4 out k2
theorem RzA.text : ∀ {us : List Value} {ds : List PyData}, RzA h us ds → PyData.showableAll ds = true → (∀ t ∈ PyData.shownAll ds, t.length ≤ sizeLine) → ∃ bs, ReadAtMost h (PyData.depthAll ds) bs ∧ ReprAllK prog w bs h (PyData.depthAll ds) us (PyData.shownAll ds)
  | _, _, .nil, _, _ => ⟨[], fun _ z => (by cases z), by simp only [PyData.shownAll]; exact .nil⟩
  | _, _, .cons (d := d) (ds := ds) q r, a, b => by
    have a' : d.showable = true ∧ PyData.showableAll ds = true := by simpa [PyData.showableAll] using a
    obtain ⟨b1, k1, k2⟩ := q.text a'.1 (b _ (by simp only [PyData.shownAll]; exact List.mem_cons_self ..))
    obtain ⟨b2, k3, k4⟩ := r.text a'.2 fun t ht => b t (by simp only [PyData.shownAll]; exact List.mem_cons_of_mem _ ht)
    refine ⟨b1 ++ b2, (k1.mono ?_).append (k3.mono ?_), ?_⟩
    · simp only [PyData.depthAll]; omega
    · simp only [PyData.depthAll]; omega
    · simp only [PyData.depthAll, PyData.shownAll]
      exact .cons ((k2.more fun c hc => List.mem_append_left _ hc).level_le (Nat.le_max_left _ _)) (k4.more_le (fun c hc => List.mem_append_right _ hc) (Nat.le_max_right _ _))
theorem RzE.text : ∀ {es : List DictEntry} {kvs : List (PyData × PyData)}, RzE h es kvs → PyData.showableKv kvs = true → (∀ t ∈ PyData.shownKv kvs, t.length ≤ sizeLine) → ∃ bs, ReadAtMost h (PyData.depthKv kvs) bs ∧ ReprEntriesK prog w bs h (PyData.depthKv kvs) es (PyData.shownKv kvs)
  | _, _, .nil, _, _ => ⟨[], fun _ z => (by cases z), by simp only [PyData.shownKv]; exact .nil⟩
  | _, _, .cons (y := y) (d := d) (r := r) k q z, a, b => by
    have a' : (y.showable = true ∧ d.showable = true) ∧ PyData.showableKv r = true := by simpa [PyData.showableKv] using a
    have hb := b (y.shown ++ ": " ++ d.shown) (by simp only [PyData.shownKv]; exact List.mem_cons_self ..)
    have hb2 : y.shown.length ≤ sizeLine ∧ d.shown.length ≤ sizeLine := by
      rw [strLen_append, strLen_append] at hb
      omega
    obtain ⟨b0, k5, k6⟩ := ReprK.of_reads (prog := prog) (w := w) k a'.1.1 (fun _ => List.not_mem_nil) hb2.1
    obtain ⟨b1, k1, k2⟩ := q.text a'.1.2 hb2.2
    obtain ⟨b2, k3, k4⟩ := z.text a'.2 fun t ht => b t (by simp only [PyData.shownKv]; exact List.mem_cons_of_mem _ ht)
    refine ⟨b0 ++ (b1 ++ b2), (k5.mono ?_).append ((k1.mono ?_).append (k3.mono ?_)), ?_⟩
    · simp only [PyData.depthKv]; omega
    · simp only [PyData.depthKv]; omega
    · simp only [PyData.depthKv]; omega
    · simp only [PyData.depthKv, PyData.shownKv]
      exact .cons ((k6.more fun c hc => List.mem_append_left _ hc).level_le (by omega)) ((k2.more fun c hc => List.mem_append_right _ (List.mem_append_left _ hc)).level_le (by omega)) (entries_more (fun c hc => List.mem_append_right _ (List.mem_append_right _ hc)) (by omega) k4)
end
variable {A : Around} {E : Value → Shared → Prop} {s : Shared} {Q : Value → Shared → Prop}
theorem Rz.call {p : Addr} {d : PyData} (r : Rz s.heap (.ref p) d) (a : d.showable = true) (b : d.shown.length ≤ sizeLine) (hg : A.guards = some []) (hu : A.units + (d.depth + 1) < cLine)
    (hQ : ∀ h' u tk, (∀ b o, s.heap.get? b = some o → h'.get? b = some o) → Q (.str d.shown u) { s with heap := h', toks := tk }) : wpAny (model prog w) A (call (.builtin "repr") [.ref p]) Q E s := by
  have full := r
  cases r with
  | lst e1 e2 e3 q =>
    rename_i ob its n ds
    obtain ⟨as, rd⟩ := full.reads
    have b' : (listText (PyData.shownAll ds)).length ≤ sizeLine := by simpa only [PyData.shown] using b
    obtain ⟨bs, k1, k2⟩ := q.text (prog := prog) (w := w) (by simpa [PyData.showable] using a) fun t ht => Nat.le_trans (listText_mem_le ht) b'
    have out : p ∉ bs := not_mem_of_deeper rd (by simp only [PyData.depth]; omega) k1
    simp only [PyData.depth] at hu
    simp only [PyData.shown] at hQ
    refine call_repr_slot (by omega) ⟨ob, e1, e2⟩ F.slot_list_repr.toG ?_
    obtain ⟨l⟩ := its
    cases l with
    | nil =>
      cases q
      simp only [PyData.shownAll, listText_nil] at hQ
      exact call_list_repr_empty ⟨ob, e1, e2⟩ e1 e3 ⟨_, _, rfl, hQ s.heap _ _ fun _ _ e => e⟩
    | cons z l => exact call_list_reprK e1 e2 e3 out (by simpa using k2.length_eq) (fun i y e => k2.item i y (by simpa using e)) hg (fun c _ => Clear.nil c) (by show A.units + 1 + _ < cLine; omega) (fun _ _ e => e) (fun h' u tk hk => ⟨_, _, rfl, hQ h' u tk hk⟩) b'
  | tup e1 e2 e3 q =>
    rename_i ob its n ds
    obtain ⟨as, rd⟩ := full.reads
    have b' : (tupleText (PyData.shownAll ds)).length ≤ sizeLine := by simpa only [PyData.shown] using b
    obtain ⟨bs, k1, k2⟩ := q.text (prog := prog) (w := w) (by simpa [PyData.showable] using a) fun t ht => Nat.le_trans (tupleText_mem_le ht) b'
    have out : p ∉ bs := not_mem_of_deeper rd (by simp only [PyData.depth]; omega) k1
    simp only [PyData.depth] at hu
    simp only [PyData.shown] at hQ
    refine call_repr_slot (by omega) ⟨ob, e1, e2⟩ F.slot_tuple_repr ?_
    exact call_tuple_reprK e1 e2 e3 out k2 hg (fun c _ => Clear.nil c) (by show A.units + 1 + _ < cLine; omega) (fun _ _ e => e) (fun h' u tk hk => ⟨_, _, rfl, hQ h' u tk hk⟩) b'
  | dct e1 e2 e3 e4 q =>
    rename_i ob es n kvs
    obtain ⟨as, rd⟩ := full.reads
    have b' : (dictText (PyData.shownKv kvs)).length ≤ sizeLine := by simpa only [PyData.shown] using b
    obtain ⟨bs, k1, k2⟩ := q.text (prog := prog) (w := w) (by simpa [PyData.showable] using a) fun t ht => Nat.le_trans (dictText_mem_le ht) b'
    have out : p ∉ bs := not_mem_of_deeper rd (by simp only [PyData.depth]; omega) k1
    simp only [PyData.depth] at hu
    simp only [PyData.shown] at hQ
    refine call_repr_slot (by omega) ⟨ob, e1, e2⟩ F.slot_dict_repr ?_
    exact call_dict_reprK e1 e2 e3 e4 out k2 hg (fun c _ => Clear.nil c) (by show A.units + 1 + _ < cLine; omega) (fun _ _ e => e) (fun h' u tk hk => ⟨_, _, rfl, hQ h' u tk hk⟩) b'
end
section
variable {X : Cx} {pins : List (Addr × Obj)} {σ : L2.St} {H : Hp} {s : Shared}
mutual
theorem dq_rz (I : L2.Inv X pins σ H s) : ∀ (d : PyData) (v : V) (u : Value), nol d = true → Dq X.K H v d → RelV v u → Rz s.heap u d
  | .none, _, _, _, q, r => by
    cases q
    cases r
    exact .non
  | .bool b, _, _, _, q, r => by
    cases q
    cases r
    exact .bl b
  | .int i, _, _, _, q, r => by
    cases q
    obtain ⟨t, rfl⟩ := r
    exact .int i t
  | .str x, _, _, _, q, r => by
    cases q
    obtain ⟨t, rfl⟩ := r
    exact .str x t
  | .list ds, _, _, z, q, r => by
    cases q with
    | lst hs ha =>
      cases r
      obtain ⟨its, rv, ⟨o, n, ho, hc, _, hd⟩, _⟩ := I.list hs.sql
      exact .lst ho hc hd (dq_rzA I ds _ its (by simpa [nol] using z) ha rv)
  | .tuple ds, _, _, z, q, r => by
    cases q with
    | tup hs ha =>
      cases r
      obtain ⟨its, rv, ⟨o, ho, hc, n, hd⟩, _⟩ := I.tuple hs
      exact .tup ho hc hd (dq_rzA I ds _ its (by simpa [nol] using z) ha rv)
  | .dict es, _, _, z, q, r => by
    cases q with
    | fnc _ => cases z
    | dct hs ha =>
      cases r
      obtain ⟨_, lo, vs, rel, o, ens, ep, ho, hx, hdat, _, hp, _⟩ := dk_rd I.hok hs
      have z' : (!fnQ es && nolK es) = true := z
      rw [Bool.and_eq_true] at z'
      exact .dct ho hx.1 hdat lo (dq_rzE I es _ vs ens.toList z'.2 ha rel hp)
theorem dq_rzA (I : L2.Inv X pins σ H s) : ∀ (ds : List PyData) (vs : List V) (us : List Value), nolA ds = true → DqAll X.K H vs ds → Vals vs us → RzA s.heap us ds
  | [], _, _, _, q, r => by
    cases q
    cases r
    exact .nil
  | d :: ds, _, _, z, q, r => by
    cases q with
    | cons h1 h2 =>
      cases r with
      | cons r1 r2 =>
        have z' : nol d = true ∧ nolA ds = true := by simpa [nolA] using z
        exact .cons (dq_rz I d _ _ z'.1 h1 r1) (dq_rzA I ds _ _ z'.2 h2 r2)
theorem dq_rzE (I : L2.Inv X pins σ H s) : ∀ (kvs : List (PyData × PyData)) (ps : List (L2.Key × V)) (vs : List (L2.Key × Value)) (es : List DictEntry), nolK kvs = true → DqKV X.K H ps kvs → KV ps vs → Pairs (mixKind X.prog X.w) es vs → RzE s.heap es kvs
  | [], _, _, _, _, q, r, m => by
    cases q
    cases r
    cases m
    exact .nil
  | (y, d) :: kvs, _, _, _, z, q, r, m => by
    cases q with
    | cons h0 h1 h2 =>
      cases r with
      | cons r1 r2 =>
        cases m with
        | cons m1 m2 m3 =>
          have z' : nol d = true ∧ nolK kvs = true := by simpa [nolK] using z
          obtain ⟨re, rv⟩ := r1
          have ey := key_enc h0
          subst ey
          rename_i kv l2 e2 es2
          obtain ⟨k', u'⟩ := kv
          cases re
          refine .cons ?_ ?_ (dq_rzE I kvs _ _ _ z'.2 h2 r2 m3)
          · exact enc_key _ _ m1
          · rw [m2]
            exact dq_rz I d _ _ z'.1 h1 rv
end
theorem call_reprQ {X : Cx} (hg : X.A.guards = some []) (hu : X.A.units + 65 < cLine) : CallR X (.builtin "repr") (fun xs H Q => ∃ p d, xs = [.ref p] ∧ Dq X.K H (.ref p) d ∧ PyData.showable d = true ∧ d.shown.length ≤ sizeLine ∧ nol d = true ∧ PyData.depth d ≤ 60 ∧ Q (.str d.shown) H) := by
  intro pins s σ H xs us Q I r h
  obtain ⟨p, d, rfl, hd, hs, hz, hh, hp, q⟩ := h
  obtain ⟨u, rfl, rx⟩ := vals1 r
  have rz := dq_rz I d _ u hh hd rx
  obtain rfl : u = Value.ref p := rx
  exact rz.call hs hz hg (by omega) fun h' u' tk k => ⟨.str d.shown, H, I.kept (t' := tk) k, ⟨_, rfl⟩, q⟩
end
end
end PF

/-! PF3b: built-in functions and methods on data. -/
namespace PF
open PySem PySem.Spec PyProof.Rows L2
def BF.val : BF → Value
  | .len => .builtin "len"
  | .abs => .builtin "abs"
  | .int => .type "int"
  | .max2 => .builtin "max"
  | .min2 => .builtin "min"
  | .max1 => .builtin "max"
  | .min1 => .builtin "min"
  | .sum => .builtin "sum"
  | .all => .builtin "all"
  | .any => .builtin "any"
  | .repr => .builtin "repr"
  | .tuple => .type "tuple"
  | .list => .type "list"
  | .sorted => .builtin "sorted"
  | .divmod => .builtin "divmod"
  | .dict => .type "dict"
  | .str => .type "str"
def BF.nm : BF → Str
  | .len => "len"
  | .abs => "abs"
  | .int => "int"
  | .max2 => "max"
  | .min2 => "min"
  | .max1 => "max"
  | .min1 => "min"
  | .sum => "sum"
  | .all => "all"
  | .any => "any"
  | .repr => "repr"
  | .tuple => "tuple"
  | .list => "list"
  | .sorted => "sorted"
  | .divmod => "divmod"
  | .dict => "dict"
  | .str => "str"
def MT.nm : MT → Str
  | .append => "append"
  | .pop => "pop"
  | .insert => "insert"
  | .extend => "extend"
def MT.id : MT → String
  | .append => "list.append"
  | .pop => "list.pop"
  | .insert => "list.insert"
  | .extend => "list.extend"
section
variable {K : PySem.W.Frag} {H F : Hp}
theorem opdAll_1 {xs : List V} {a : PyData} (h : Paired (Opd K F H) xs [a]) : ∃ x, xs = [x] ∧ Opd K F H x a := by
  cases h with
  | cons h1 h2 =>
    cases h2
    exact ⟨_, rfl, h1⟩
theorem opdAll_2 {xs : List V} {a b : PyData} (h : Paired (Opd K F H) xs [a, b]) : ∃ x y, xs = [x, y] ∧ Opd K F H x a ∧ Opd K F H y b := by
  cases h with
  | cons h1 h2 =>
    obtain ⟨y, rfl, h3⟩ := opdAll_1 h2
    exact ⟨_, _, rfl, h1, h3⟩
theorem ints_of : ∀ {ds : List PyData} {ns : List Int} {vs : List V}, intsD ds = some ns → DqAll K F vs ds → vs = ns.map V.int
  | [], _, _, e, q => by
    cases e
    cases q
    rfl
  | .int i :: ds, ns, _, e, q => by
    cases q with
    | cons q1 q2 =>
      unfold intsD at e
      cases e2 : intsD ds with
      | none =>
        rw [e2] at e
        cases e
      | some l =>
        rw [e2] at e
        cases e
        cases q1
        rw [ints_of e2 q2]
        rfl
  | .none :: ds, ns, _, e, q => by cases e
  | .bool _ :: ds, ns, _, e, q => by cases e
  | .str _ :: ds, ns, _, e, q => by cases e
  | .list _ :: ds, ns, _, e, q => by cases e
  | .tuple _ :: ds, ns, _, e, q => by cases e
  | .dict _ :: ds, ns, _, e, q => by cases e
end
section
variable {K : PySem.W.Frag} {H F : Hp}
theorem bools_of : ∀ {ds : List PyData} {ns : List Bool} {vs : List V}, boolsD ds = some ns → DqAll K F vs ds → vs = ns.map V.bl
  | [], _, _, e, q => by
    cases e
    cases q
    rfl
  | .bool i :: ds, ns, _, e, q => by
    cases q with
    | cons q1 q2 =>
      unfold boolsD at e
      obtain ⟨l, e2, e⟩ := Option.bind_eq_some_iff.mp e
      cases e
      cases q1
      rw [bools_of e2 q2]
      rfl
  | .none :: ds, ns, _, e, q => by cases e
  | .int _ :: ds, ns, _, e, q => by cases e
  | .str _ :: ds, ns, _, e, q => by cases e
  | .list _ :: ds, ns, _, e, q => by cases e
  | .tuple _ :: ds, ns, _, e, q => by cases e
  | .dict _ :: ds, ns, _, e, q => by cases e
theorem dqAll_ints (F : Hp) : ∀ ns : List Int, DqAll K F (ns.map V.int) (ns.map .int)
  | [] => .nil
  | i :: r => .cons (.int i) (dqAll_ints F r)
theorem foldl_max : ∀ (l : List Int) (a : Int), (l.foldl max a = a ∨ l.foldl max a ∈ l) ∧ a ≤ l.foldl max a ∧ ∀ y ∈ l, y ≤ l.foldl max a
  | [], a => ⟨.inl rfl, Int.le_refl _, fun y h => by cases h⟩
  | b :: r, a => by
    obtain ⟨h1, h2, h3⟩ := foldl_max r (max a b)
    rw [List.foldl_cons]
    refine ⟨?_, by omega, fun y hy => ?_⟩
    · rcases h1 with h | h
      · rw [h]
        rcases Int.le_total a b with z | z
        · rw [Int.max_eq_right z]
          exact .inr (List.mem_cons_self ..)
        · rw [Int.max_eq_left z]
          exact .inl rfl
      · exact .inr (List.mem_cons_of_mem _ h)
    · rcases List.mem_cons.mp hy with e | e
      · subst e
        omega
      · exact h3 y e
theorem foldl_min : ∀ (l : List Int) (a : Int), (l.foldl min a = a ∨ l.foldl min a ∈ l) ∧ l.foldl min a ≤ a ∧ ∀ y ∈ l, l.foldl min a ≤ y
  | [], a => ⟨.inl rfl, Int.le_refl _, fun y h => by cases h⟩
  | b :: r, a => by
    obtain ⟨h1, h2, h3⟩ := foldl_min r (min a b)
    rw [List.foldl_cons]
    refine ⟨?_, by omega, fun y hy => ?_⟩
    · rcases h1 with h | h
      · rw [h]
        rcases Int.le_total a b with z | z
        · rw [Int.min_eq_left z]
          exact .inl rfl
        · rw [Int.min_eq_right z]
          exact .inr (List.mem_cons_self ..)
      · exact .inr (List.mem_cons_of_mem _ h)
    · rcases List.mem_cons.mp hy with e | e
      · subst e
        omega
      · exact h3 y e
theorem maxI_is {l : List Int} {m : Int} (h : maxI l = some m) : 0 < l.length ∧ m ∈ l ∧ ∀ y ∈ l, y ≤ m := by
  cases l with
  | nil => cases h
  | cons a r =>
    cases h
    obtain ⟨h1, h2, h3⟩ := foldl_max r a
    refine ⟨Nat.succ_pos _, ?_, fun y hy => ?_⟩
    · rcases h1 with z | z
      · rw [z]
        exact List.mem_cons_self ..
      · exact List.mem_cons_of_mem _ z
    · rcases List.mem_cons.mp hy with e | e
      · subst e
        exact h2
      · exact h3 y e
theorem minI_is {l : List Int} {m : Int} (h : minI l = some m) : 0 < l.length ∧ m ∈ l ∧ ∀ y ∈ l, m ≤ y := by
  cases l with
  | nil => cases h
  | cons a r =>
    cases h
    obtain ⟨h1, h2, h3⟩ := foldl_min r a
    refine ⟨Nat.succ_pos _, ?_, fun y hy => ?_⟩
    · rcases h1 with z | z
      · rw [z]
        exact List.mem_cons_self ..
      · exact List.mem_cons_of_mem _ z
    · rcases List.mem_cons.mp hy with e | e
      · subst e
        exact h2
      · exact h3 y e
/-- a value that is a tuple of these ints -/
def TupQ (K : PySem.W.Frag) (F : Hp) (x : V) (t : List Int) : Prop := ∃ p, x = .ref p ∧ SqT K F p (t.map V.int)
theorem TupQ.dq {x : V} {t : List Int} (h : TupQ K F x t) : Dq K F x (.tuple (t.map .int)) := by
  obtain ⟨p, rfl, h⟩ := h
  exact .tup h (dqAll_ints F t)
theorem tupQ_of {x : V} {d : PyData} {t : List Int} (e : tupD d = some t) (q : Dq K F x d) : TupQ K F x t := by
  cases d with
  | tuple ds =>
    cases q with
    | tup h1 h2 =>
      have hv := ints_of e h2
      subst hv
      exact ⟨_, rfl, h1⟩
  | _ => cases e
/-- values that are tuples of these ints, one by one -/
inductive TupQs (K : PySem.W.Frag) (F : Hp) : List V → List (List Int) → Prop
  | nil : TupQs K F [] []
  | cons {x : V} {t : List Int} {xs : List V} {ts : List (List Int)} : TupQ K F x t → TupQs K F xs ts → TupQs K F (x :: xs) (t :: ts)
theorem tups_of : ∀ {ds : List PyData} {ts : List (List Int)} {vs : List V}, tupsD ds = some ts → DqAll K F vs ds → TupQs K F vs ts
  | [], _, _, e, q => by
    cases e
    cases q
    exact .nil
  | d :: ds, ts, _, e, q => by
    cases q with
    | cons q1 q2 =>
      unfold tupsD at e
      obtain ⟨t, e1, e⟩ := Option.bind_eq_some_iff.mp e
      obtain ⟨l, e2, e⟩ := Option.bind_eq_some_iff.mp e
      cases e
      exact .cons (tupQ_of e1 q1) (tups_of e2 q2)
theorem TupQs.len {vs : List V} {ts : List (List Int)} (h : TupQs K F vs ts) : vs.length = ts.length := by
  induction h with
  | nil => rfl
  | cons _ _ ih => rw [List.length_cons, List.length_cons, ih]
theorem TupQs.mem {vs : List V} {ts : List (List Int)} (h : TupQs K F vs ts) : ∀ x ∈ vs, ∃ t ∈ ts, TupQ K F x t := by
  induction h with
  | nil => exact fun x hx => by cases hx
  | cons a _ ih =>
    intro x hx
    rcases List.mem_cons.mp hx with e | e
    · subst e
      exact ⟨_, List.mem_cons_self .., a⟩
    · obtain ⟨t, ht, q⟩ := ih x e
      exact ⟨t, List.mem_cons_of_mem _ ht, q⟩
theorem TupQs.perm {vs ws : List V} (p : ws.Perm vs) : ∀ {ts : List (List Int)}, TupQs K F vs ts → ∃ us, TupQs K F ws us ∧ us.Perm ts := by
  induction p with
  | nil => exact fun h => ⟨_, h, List.Perm.refl _⟩
  | cons x _ ih =>
    intro ts h
    cases h with
    | cons a b =>
      obtain ⟨us, c, d⟩ := ih b
      exact ⟨_, .cons a c, d.cons _⟩
  | swap x y l =>
    intro ts h
    cases h with
    | cons a b =>
      cases b with
      | cons c d => exact ⟨_, .cons c (.cons a d), List.Perm.swap _ _ _⟩
  | trans _ _ ih1 ih2 =>
    intro ts h
    obtain ⟨us, a, b⟩ := ih2 h
    obtain ⟨ws, c, d⟩ := ih1 a
    exact ⟨ws, c, d.trans b⟩
theorem TupQs.dq {vs : List V} {ts : List (List Int)} (h : TupQs K F vs ts) : DqAll K F vs (ts.map fun t => .tuple (t.map .int)) := by
  induction h with
  | nil => exact .nil
  | cons a _ ih => exact .cons a.dq ih
theorem TupQs.pw {R : V → V → Prop} {S : List Int → List Int → Prop} (f : ∀ x y t u, TupQ K F x t → TupQ K F y u → R x y → S t u) {vs : List V} {ts : List (List Int)} (h : TupQs K F vs ts) : vs.Pairwise R → ts.Pairwise S := by
  induction h with
  | nil => exact fun _ => .nil
  | @cons x t xs ts a b ih =>
    intro w
    obtain ⟨w1, w2⟩ := List.pairwise_cons.mp w
    refine List.pairwise_cons.mpr ⟨fun u hu => ?_, ih w2⟩
    have : ∀ {xs : List V} {ts : List (List Int)}, TupQs K F xs ts → u ∈ ts → ∃ y ∈ xs, TupQ K F y u := by
      intro xs ts h
      induction h with
      | nil => exact fun h => by cases h
      | cons c _ ih2 =>
        intro h
        rcases List.mem_cons.mp h with e | e
        · subst e
          exact ⟨_, List.mem_cons_self .., c⟩
        · obtain ⟨y, hy, q⟩ := ih2 e
          exact ⟨y, List.mem_cons_of_mem _ hy, q⟩
    obtain ⟨y, hy, q⟩ := this b hu
    exact f x y t u a q (w1 y hy)
end
section
variable {X : Cx}
theorem call_reprD (hg : X.A.guards = some []) (hu : X.A.units + 65 < cLine) : CallR X (.builtin "repr") (fun xs H Q => ∃ x d, xs = [x] ∧ Dp X.K H x d ∧ PyData.showable d = true ∧ d.shown.length ≤ sizeLine ∧ d.hasDict = false ∧ PyData.depth d ≤ 60 ∧ Q (.str d.shown) H) := by
  intro pins s σ H xs us Q I r h
  obtain ⟨x, d, rfl, hd, hs, hz, hh, hp, q⟩ := h
  obtain ⟨u, rfl, rx⟩ := vals1 r
  obtain ⟨as, rd⟩ := Dp.reads I d x u hd rx
  have fin : ∀ h' u' tk, (∀ b o, s.heap.get? b = some o → h'.get? b = some o) → EP X pins σ Q (.str d.shown u') { s with heap := h', toks := tk } := fun h' u' tk k => ⟨.str d.shown, H, I.kept (t' := tk) k, ⟨_, rfl⟩, q⟩
  have fin0 : ∀ u' tk, EP X pins σ Q (.str d.shown u') { s with toks := tk } := fun u' tk => ⟨.str d.shown, H, I.tok tk, ⟨_, rfl⟩, q⟩
  cases hd with
  | non =>
    cases rx
    exact PySem.P.repr_of_none (fin0 _ _)
  | bl k =>
    cases rx
    exact PySem.P.repr_of_bool (fin0 _ _)
  | int i =>
    obtain ⟨t, rfl⟩ := rx
    exact PySem.P.repr_of_int (of_decide_eq_true hs) (fin0 _ _)
  | str z =>
    obtain ⟨t, rfl⟩ := rx
    exact PySem.P.repr_of_str (fin0 _ _) hz
  | lst h1 h2 =>
    cases rx
    exact repr_of_reads' rd hs (fun z => by rw [hh] at z; cases z) hg (by omega) (fun _ _ e => e) (fun h' u' tk k => fin h' u' tk k) hz
  | tup h1 h2 =>
    cases rx
    exact repr_of_reads' rd hs (fun z => by rw [hh] at z; cases z) hg (by omega) (fun _ _ e => e) (fun h' u' tk k => fin h' u' tk k) hz
def qFn (K : PySem.W.Frag) (f : BF) : List V → Hp → VK → Prop := fun xs H Q => ∃ F ds r, Same F H ∧ Paired (Opd K F H) xs ds ∧ fnD f ds = some r ∧ Made K H F r Q
theorem fn_ok (hc : X.calm = true) (hg : X.A.guards = some []) (hu : X.A.units + 65 < cLine) (f : BF) : CallR X f.val (qFn X.K f) := by
  intro pins s σ H xs us Q I r h
  obtain ⟨F, ds, res, sm, oa, e, m⟩ := h
  unfold fnD at e
  split at e
  · cases e
    obtain ⟨x, rfl, o⟩ := opdAll_1 oa
    obtain ⟨p, vs, rfl, h1, q1⟩ := opd_list sm o
    refine call_len_seq pins s σ H _ us Q I r ⟨_, _, rfl, .inl h1.sql, ?_⟩
    rw [dpAll_len q1]
    exact m.v sm (.int _)
  · cases e
    obtain ⟨x, rfl, o⟩ := opdAll_1 oa
    obtain ⟨p, vs, rfl, h1, q1⟩ := opd_tup sm o
    refine call_len_seq pins s σ H _ us Q I r ⟨_, _, rfl, .inr h1, ?_⟩
    rw [dpAll_len q1]
    exact m.v sm (.int _)
  · split at e
    · rename_i hz
      cases e
      obtain ⟨x, rfl, o⟩ := opdAll_1 oa
      cases opd_str o
      exact call_len_str pins s σ H _ us Q I r ⟨_, rfl, hz, m.v sm (.int _)⟩
    · cases e
  · cases e
    obtain ⟨x, rfl, o⟩ := opdAll_1 oa
    cases opd_int o
    exact call_abs pins s σ H _ us Q I r ⟨_, rfl, m.v sm (.int _)⟩
  · cases e
    obtain ⟨x, rfl, o⟩ := opdAll_1 oa
    cases opd_int o
    exact call_int1 pins s σ H _ us Q I r (.inl ⟨_, rfl, m.v sm (.int _)⟩)
  · cases e
    obtain ⟨x, rfl, o⟩ := opdAll_1 oa
    cases opd_bool o
    exact call_int1 pins s σ H _ us Q I r (.inr ⟨_, rfl, m.v sm (.int _)⟩)
  · cases e
    obtain ⟨x, y, rfl, o, o2⟩ := opdAll_2 oa
    cases opd_int o
    cases opd_int o2
    exact call_max2 hc pins s σ H _ us Q I r ⟨_, _, rfl, m.v sm (.int _)⟩
  · cases e
    obtain ⟨x, y, rfl, o, o2⟩ := opdAll_2 oa
    cases opd_int o
    cases opd_int o2
    exact call_min2 hc pins s σ H _ us Q I r ⟨_, _, rfl, m.v sm (.int _)⟩
  · cases e2 : intsD _ with
    | none =>
      rw [e2] at e
      cases e
    | some ns =>
      rw [e2] at e
      cases e
      obtain ⟨x, rfl, o⟩ := opdAll_1 oa
      obtain ⟨p, vs, rfl, h1, q1⟩ := opd_list sm o
      have hv := ints_of e2 q1
      subst hv
      exact cr_sum hc pins s σ H _ us Q I r ⟨_, _, rfl, h1.sql, m.v sm (.int _)⟩
  · split at e
    · rename_i d0 hz
      cases e
      obtain ⟨x, rfl, o⟩ := opdAll_1 oa
      by_cases hh : PyData.hasDict d0 = false
      · exact call_reprD hg hu pins s σ H _ us Q I r ⟨_, _, rfl, Dq.dp _ hh (opd_dq sm o), hz.1, hz.2.1, hh, hz.2.2.2, m.v sm (.str _)⟩
      · have hn := hz.2.2.1.resolve_left hh
        have od := opd_dq sm o
        have rf : ∃ p, x = .ref p := by
          cases od <;> first | exact ⟨_, rfl⟩ | exact absurd rfl hh
        obtain ⟨p, rfl⟩ := rf
        exact call_reprQ hg hu pins s σ H _ us Q I r ⟨_, _, rfl, od, hz.1, hz.2.1, hn, hz.2.2.2, m.v sm (.str _)⟩
    · cases e
  · cases e
    obtain ⟨x, rfl, o⟩ := opdAll_1 oa
    obtain ⟨p, vs, rfl, h1, q1⟩ := opd_list sm o
    exact call_tuple_of pins s σ H _ us Q I r ⟨_, _, rfl, .inl ⟨h1.sql, fun l hl => m.t sm q1 hl⟩⟩
  · cases e
    obtain ⟨x, rfl, o⟩ := opdAll_1 oa
    have o' := o
    obtain ⟨p, vs, rfl, h1, q1⟩ := opd_tup sm o
    refine call_tuple_of pins s σ H _ us Q I r ⟨_, _, rfl, .inr ⟨h1, ?_⟩⟩
    rcases o' with o' | ⟨_, _, _, _, e0, _⟩ | ⟨_, _, _, _, e0, _⟩
    · exact m.v sm o'
    · cases e0
    · cases e0
  · cases e
    obtain ⟨x, rfl, o⟩ := opdAll_1 oa
    obtain ⟨p, vs, rfl, h1, q1⟩ := opd_list sm o
    exact call_list_of pins s σ H _ us Q I r ⟨_, _, rfl, .inl h1.sql, fun l hl => m.o sm q1 hl⟩
  · cases e
    obtain ⟨x, rfl, o⟩ := opdAll_1 oa
    obtain ⟨p, vs, rfl, h1, q1⟩ := opd_tup sm o
    exact call_list_of pins s σ H _ us Q I r ⟨_, _, rfl, .inr h1, fun l hl => m.o sm q1 hl⟩
  · obtain ⟨ns, e2, e⟩ := Option.bind_eq_some_iff.mp e
    cases e
    obtain ⟨x, rfl, o⟩ := opdAll_1 oa
    obtain ⟨p, vs, rfl, h1, q1⟩ := opd_tup sm o
    have hv := ints_of e2 q1
    subst hv
    exact cr_sumT hc pins s σ H _ us Q I r ⟨_, _, rfl, h1, m.v sm (.int _)⟩
  · obtain ⟨ns, e2, e⟩ := Option.bind_eq_some_iff.mp e
    cases e
    obtain ⟨x, rfl, o⟩ := opdAll_1 oa
    obtain ⟨p, vs, rfl, h1, q1⟩ := opd_list sm o
    have hv := bools_of e2 q1
    subst hv
    exact cr_all hc pins s σ H _ us Q I r ⟨_, _, rfl, h1.sql, m.v sm (.bl _)⟩
  · obtain ⟨ns, e2, e⟩ := Option.bind_eq_some_iff.mp e
    cases e
    obtain ⟨x, rfl, o⟩ := opdAll_1 oa
    obtain ⟨p, vs, rfl, h1, q1⟩ := opd_list sm o
    have hv := bools_of e2 q1
    subst hv
    exact cr_any hc pins s σ H _ us Q I r ⟨_, _, rfl, h1.sql, m.v sm (.bl _)⟩
  · obtain ⟨ns, e2, e⟩ := Option.bind_eq_some_iff.mp e
    obtain ⟨mx, e3, e⟩ := Option.bind_eq_some_iff.mp e
    cases e
    obtain ⟨x, rfl, o⟩ := opdAll_1 oa
    obtain ⟨p, vs, rfl, h1, q1⟩ := opd_list sm o
    have hv := ints_of e2 q1
    subst hv
    obtain ⟨a1, a2, a3⟩ := maxI_is e3
    refine cr_max hc pins s σ H _ us Q I r ⟨_, _, rfl, h1.sql, a1, fun k hk hy => ?_⟩
    rw [Int.le_antisymm (a3 k hk) (hy mx a2)]
    exact m.v sm (.int _)
  · obtain ⟨ns, e2, e⟩ := Option.bind_eq_some_iff.mp e
    obtain ⟨mx, e3, e⟩ := Option.bind_eq_some_iff.mp e
    cases e
    obtain ⟨x, rfl, o⟩ := opdAll_1 oa
    obtain ⟨p, vs, rfl, h1, q1⟩ := opd_list sm o
    have hv := ints_of e2 q1
    subst hv
    obtain ⟨a1, a2, a3⟩ := minI_is e3
    refine cr_min hc pins s σ H _ us Q I r ⟨_, _, rfl, h1.sql, a1, fun k hk hy => ?_⟩
    rw [Int.le_antisymm (hy mx a2) (a3 k hk)]
    exact m.v sm (.int _)
  · obtain ⟨ys, e2, e⟩ := Option.bind_eq_some_iff.mp e
    cases e
    obtain ⟨x, rfl, o⟩ := opdAll_1 oa
    obtain ⟨p, vs, rfl, h1, q1⟩ := opd_list sm o
    unfold sortD at e2
    split at e2
    · rename_i ns e3
      cases e2
      have hv := ints_of e3 q1
      subst hv
      refine cr_sortedI pins s σ H _ us Q I r ⟨_, _, rfl, h1.sql, fun ns' b hp hw hb => ?_⟩
      have e4 : sortS (fun a b : Int => decide (a < b)) ns = ns' := sort_is swoI totI (hw.imp fun {x y} z => decide_eq_false (by omega)) hp
      rw [e4] at m
      exact m.o sm (dqAll_ints F ns') hb
    · split at e2
      · rename_i ts e3
        split at e2
        · rename_i hc2
          cases e2
          have hv := tups_of e3 q1
          refine cr_sortL pins s σ H _ us Q I r ⟨_, _, rfl, h1.sql, fun x hx => ?_, fun zs b hp hw hb => ?_⟩
          · obtain ⟨t, ht, pt, rfl, h2⟩ := hv.mem x hx
            refine ⟨t, ⟨pt, rfl, sqtMono sm h2⟩, fun h2 => ?_⟩
            rcases hc2 with z | z
            · rw [← hv.len] at z
              omega
            · have := List.all_eq_true.mp z t ht
              intro hn
              rw [hn] at this
              cases this
          · obtain ⟨us2, g1, g2⟩ := TupQs.perm hp hv
            have g3 : SrtO.Srtd lexI us2 := g1.pw (fun x y t u ⟨p1, r1, k1⟩ ⟨p2, r2, k2⟩ hxy => hxy t u ⟨p1, r1, sqtMono sm k1⟩ ⟨p2, r2, sqtMono sm k2⟩) hw
            rw [sort_is swoT lexI_tot g3 g2] at m
            exact m.o sm g1.dq hb
        · cases e2
      · cases e2
  · split at e
    · cases e
    rename_i hq
    cases e
    obtain ⟨x, rfl, o⟩ := opdAll_1 oa
    obtain ⟨p, ps, rfl, h1, q1⟩ := opd_dict sm o (by simpa using hq)
    refine call_lenR pins s σ H _ us Q I r ⟨_, _, rfl, h1, ?_⟩
    rw [q1.len]
    exact m.v sm (.int _)
  · split at e
    · cases e
    rename_i hq
    cases e
    obtain ⟨x, rfl, o⟩ := opdAll_1 oa
    obtain ⟨p, ps, rfl, h1, q1⟩ := opd_dict sm o (by simpa using hq)
    exact call_listD hc pins s σ H _ us Q I r ⟨_, _, rfl, h1, fun l hl => m.o sm (kv_keys q1) hl⟩
  · obtain ⟨ns, e2, e⟩ := Option.bind_eq_some_iff.mp e
    split at e
    · rename_i hz
      cases e
      obtain ⟨x, rfl, o⟩ := opdAll_1 oa
      obtain ⟨p, ps, rfl, h1, q1⟩ := opd_dict sm o (fnQ_ints e2)
      refine call_sortedDI hc pins s σ H _ us Q I r ⟨_, _, _, rfl, h1, kv_ints q1 e2, hz, fun ns' b hp hw hb => ?_⟩
      have e4 : sortS (fun a b : Int => decide (a < b)) ns = ns' := sort_is swoI totI (hw.imp fun {x y} z => decide_eq_false (by omega)) hp
      rw [e4] at m
      exact m.o sm (dqAll_ints F ns') hb
    · cases e
  · obtain ⟨kvs, e2, e⟩ := Option.bind_eq_some_iff.mp e
    cases e
    obtain ⟨x, rfl, o⟩ := opdAll_1 oa
    obtain ⟨p, vs, rfl, h1, q1⟩ := opd_list sm o
    obtain ⟨as, ps, rfl, g1, g2⟩ := prs_of (H := H) q1 e2 sm
    exact call_dictP hc pins s σ H _ us Q I r ⟨_, _, _, rfl, h1.sql, g1, fun b hb => m.w sm (DqKV.merge g2 .nil) hb⟩
  · split at e
    · rename_i i hz
      cases e
      obtain ⟨x, rfl, o⟩ := opdAll_1 oa
      cases opd_int o
      exact call_str_int pins s σ H _ us Q I r ⟨_, rfl, by omega, m.v sm (.str _)⟩
    · cases e
  · split at e
    · rename_i i j hz
      cases e
      obtain ⟨x, y, rfl, o, o2⟩ := opdAll_2 oa
      cases opd_int o
      cases opd_int o2
      exact call_divmodW pins s σ H _ us Q I r ⟨_, _, rfl, ⟨hz.1, PyProof.noPylong_of_log2 (by omega)⟩, fun p hp => m.t sm (.cons (.int _) (.cons (.int _) .nil)) hp⟩
    · cases e
  · cases e
/-- a method that changes a name's own list -/
theorem mt_ok {m : MT} {K : PySem.W.Frag} {pins : List (Addr × Obj)} {s : Shared} {σ : L2.St} {H F : Hp} {p : Addr} {vs ws : List V} {xs ds ys : List PyData} {d : PyData} {v : Value} {us : List Value} {Q : VK} (hK : X.K = K) (I : Inv X pins σ H s) (rx : RelV (.ref p) v) (r : Vals ws us)
    (hp : H p = some (.lst vs)) (q : DqAll K F vs xs) (qa : DqAll K F ws ds) (e : mtD m xs ds = some (d, ys)) (sm : Same F H) (h : ∀ w vs', Dq K F w d → DqAll K F vs' ys → Q w (upd H p (.lst vs'))) : wpAny (model X.prog X.w) X.A (call (.builtin m.id) (v :: us)) (EP X pins σ Q) X.xe s := by
  subst hK
  have l1 := dpAll_len q
  unfold mtD at e
  split at e
  · split at e
    · rename_i hz
      cases e
      cases qa with
      | cons a b =>
        cases b
        exact mt_append pins s σ H _ _ v us Q I rx r ⟨_, _, _, rfl, rfl, hp, by rw [l1]; exact hz, h _ _ .non (dpAll_app q (.cons a .nil))⟩
    · cases e
  · cases qa
    cases e2 : xs[xs.length - 1]? with
    | none =>
      rw [e2] at e
      cases e
    | some y =>
      rw [e2] at e
      cases e
      obtain ⟨w, hw, qw⟩ := dpAll_get q e2
      exact mt_pop pins s σ H _ _ v us Q I rx r ⟨_, _, w, rfl, rfl, hp, by rw [l1]; exact hw, h _ _ qw (dpAll_dropLast q)⟩
  · split at e
    · rename_i hz
      cases e
      cases qa with
      | cons a b =>
        cases b with
        | cons a2 b2 =>
          cases b2
          cases a
          have hl : (sizeLine : Nat) < 2 ^ 63 := line63
          refine mt_insert pins s σ H _ _ v us Q I rx r ⟨_, _, _, _, rfl, rfl, hp, by rw [l1]; exact hz.2.2, hz.1, by omega, h _ _ .non ?_⟩
          rw [List.append_assoc]
          exact dpAll_app (dpAll_take _ q) (.cons a2 (dpAll_drop _ q))
    · cases e
  · split at e
    · rename_i hz
      cases e
      cases qa with
      | cons a b =>
        cases b
        cases a with
        | lst h1 h2 =>
          cases rx
          obtain ⟨u, rfl, ru⟩ := vals1 r
          cases ru
          obtain ⟨z, its, n, rr, hl, e1⟩ := Inv.lstM I hp
          obtain ⟨z2, its2, n2, r2, hl2, e2⟩ := Inv.rdL I (rdlMono sm h1)
          have l2 := dpAll_len h2
          have hsz : its.toArray.size + its2.toArray.size ≤ sizeLine := by rw [List.size_toArray, List.size_toArray]; omega
          have hlong : ¬ (!its.toArray.isEmpty && Builtin.List.listTooLong (its.toArray.size + its2.toArray.size)) = true := by
            rw [notLongL hsz, Bool.and_false]
            decide
          refine call_meets PySem.F.slot_list_extend ⟨_, e1, rfl⟩ PySem.F.entry_list_extend (PySem.F.args_list_extend_2 _ _)
            (AutoSeq1.list_extend_list_list_0 p its.toArray n _ its2.toArray n2 hlong (by rw [List.size_toArray]; omega) (by omega)) ⟨e1, e2, ?_⟩
          exact ⟨.non, _, Inv.lset I (its' := its ++ its2) hp e1 (by simp) (rr.append r2) (by rw [List.length_append]; omega), rfl, h _ _ .non (dpAll_app q h2)⟩
    · cases e
  · cases e
end
end PF

/-! PF4: the check that a tree of the text is one of the small language's, and that the text does what the small language means: expressions. -/
namespace PF
open PySem PySem.Spec PyProof.Rows L2

/-! ### the check -/
structure Cfg where
  N : List Str
  fns : List Str
  cons : List (Str × PyData)
structure Sc where
  sc : Scope
  fb : Str → Bool
def visS (S : Sc) (x : Str) : Bool := match S.sc.names.lookup x with
  | some .local => true
  | some .cell => true
  | some .free => true
  | _ => false
def locS (S : Sc) (x : Str) : Bool := match S.sc.names.lookup x with
  | some .local => true
  | some .cell => S.fb x
  | _ => false
def glS (S : Sc) (x : Str) : Bool := decide (S.sc.names.lookup x = some .globalImplicit)
def okN (x : Str) : Bool := !(x == ("__debug__" : Str)) && !(x == ("__classdict__" : Str))
def nmS (C : Cfg) (S : Sc) (i : Nat) (x : Str) : Bool := decide (C.N[i]? = some x) && visS S x && okN x
def tgS (C : Cfg) (S : Sc) (i : Nat) (x : Str) : Bool := decide (C.N[i]? = some x) && locS S x
def plainA : Expr → Bool
  | .Constant .. => true
  | .Name .. => true
  | .BinOp .. => true
  | .UnaryOp .. => true
  | .BoolOp .. => true
  | .Compare .. => true
  | .IfExp .. => true
  | .Subscript .. => true
  | .Tuple .. => true
  | .List .. => true
  | .Call .. => true
  | .ListComp .. => true
  | .Dict .. => true
  | .DictComp .. => true
  | _ => false
/-- whose test is its value's truth -/
def tstA : Expr → Bool
  | .Constant .. => true
  | .Name .. => true
  | .BinOp .. => true
  | .Subscript .. => true
  | .Tuple .. => true
  | .List .. => true
  | .Call .. => true
  | .ListComp .. => true
  | _ => false
def constD : Const → Option PyData
  | .none => some .none
  | .bool b => some (.bool b)
  | .int i => some (.int i)
  | .str x => some (.str x)
  | _ => none
def eqFlat : PyData → PyData → Bool
  | .none, .none => true
  | .bool a, .bool b => a == b
  | .int a, .int b => decide (a = b)
  | .str a, .str b => decide (a = b)
  | _, _ => false
mutual
def slotsG : IG → List Nat
  | .n i => [i]
  | .t gs => slotsGs gs
def slotsGs : IGs → List Nat
  | .nil => []
  | .cons g r => slotsG g ++ slotsGs r
end
/-- a display's keys and values, one behind the other -/
def kvE : List (Option Expr) → List Expr → Option (List Expr)
  | [], [] => some []
  | some k :: ks, v :: vs => (kvE ks vs).map fun r => k :: v :: r
  | _, _ => none
def consL : IL → Bool
  | .nil => true
  | .cons _ r => consL r
  | _ => false
def notStar : Expr → Bool
  | .Starred .. => false
  | _ => true
mutual
def chkG (C : Cfg) (S : Sc) : IG → Expr → Bool
  | .n i, e => match e with
    | .Name x _ => tgS C S i x
    | _ => false
  | .t gs, e => match e with
    | .Tuple es _ _ => chkGs C S gs es
    | _ => false
def chkGs (C : Cfg) (S : Sc) : IGs → List Expr → Bool
  | .nil, es => es.isEmpty
  | .cons g r, es => match es with
    | e :: es' => chkG C S g e && notStar e && chkGs C S r es'
    | [] => false
end
def isTupA : Expr → Bool
  | .Tuple .. => true
  | _ => false
mutual
def chkE (C : Cfg) (S : Sc) : IE → List Expr → Option BoolOp → Bool
  | .k d, l, _ => match l with
    | [.Constant c _ _] => (match constD c with
      | some d' => eqFlat d d'
      | none => false)
    | _ => false
  | .g x, l, _ => match l with
    | [.Name y _] => decide (x = y) && glS S x && okN x
    | _ => false
  | .x i, l, _ => match l with
    | [.Name y _] => nmS C S i y
    | _ => false
  | .bin op a b, l, _ => match l with
    | [.BinOp x o y _] => decide (op = o) && chkE C S a [x] none && chkE C S b [y] none
    | _ => false
  | .neg a, l, _ => match l with
    | [.UnaryOp .USub x _] => chkE C S a [x] none
    | _ => false
  | .not a, l, _ => match l with
    | [.UnaryOp .Not x _] => chkE C S a [x] none
    | _ => false
  | .and a b, l, k => match l, k with
    | [.BoolOp .And (x :: y :: r) _], _ => chkE C S a [x] none && chkE C S b (y :: r) (some .And)
    | x :: y :: r, some .And => chkE C S a [x] none && chkE C S b (y :: r) (some .And)
    | _, _ => false
  | .or a b, l, k => match l, k with
    | [.BoolOp .Or (x :: y :: r) _], _ => chkE C S a [x] none && chkE C S b (y :: r) (some .Or)
    | x :: y :: r, some .Or => chkE C S a [x] none && chkE C S b (y :: r) (some .Or)
    | _, _ => false
  | .cmp op a b, l, _ => match l with
    | [.Compare x [o] [y] _] => decide (op = o) && chkE C S a [x] none && chkE C S b [y] none
    | _ => false
  | .ch op op' a b c, l, _ => match l with
    | [.Compare x [o, o'] [y, z] _] => decide (op = o) && decide (op' = o') && chkE C S a [x] none && chkE C S b [y] none && chkE C S c [z] none
    | _ => false
  | .ife t a b, l, _ => match l with
    | [.IfExp z x y _] => chkT C S t [z] none && chkE C S a [x] none && chkE C S b [y] none
    | _ => false
  | .ix a b, l, _ => match l with
    | [.Subscript x y _] => chkE C S a [x] none && chkE C S b [y] none
    | _ => false
  | .sl a lo hi, l, _ => match l with
    | [.Subscript x (.Slice u w none _) _] => chkE C S a [x] none && chkO C S lo u && chkO C S hi w
    | _ => false
  | .rv a, l, _ => match l with
    | [.Subscript x (.Slice none none (some (.UnaryOp .USub (.Constant (.int 1) _ _) _)) _) _] => chkE C S a [x] none
    | _ => false
  | .tup es, l, _ => match l with
    | [.Tuple xs _ _] => chkL C S es xs
    | _ => false
  | .lst es, l, _ => match l with
    | [.List xs _] => chkL C S es xs
    | _ => false
  | .fn f es, l, _ => match l with
    | [.Call (.Name x _) (z :: zs) [] _] => decide (x = f.nm) && glS S x && chkL C S es (z :: zs) && (z :: zs).all plainA
    | _ => false
  | .isi a t, l, _ => match l with
    | [.Call (.Name x _) [z, .Name y _] [] _] => decide (x = "isinstance") && glS S x && chkE C S a [z] none && decide (y = Str.ofString t) && glS S y && ["int", "bool", "str", "list", "tuple", "dict"].contains t
    | _ => false
  | .call f es, l, _ => match l with
    | [.Call (.Name x _) zs [] _] => decide (C.fns[f]? = some x) && glS S x && okN x && chkL C S es zs && zs.all plainA
    | _ => false
  | .act i f x es, l, _ => match l with
    | [.Call (.Name y _) (z :: zs) [] _] => nmS C S i y && decide (C.fns[f]? = some x) && chkL C S es (z :: zs) && (z :: zs).all plainA
    | _ => false
  | .lc own g it c e, l, _ => match l with
    | [.ListComp elt [⟨tg, iter, ifs, as⟩] scope _] => decide (as = 0) && chkI C S it tg iter && blkC C.N S.sc scope own &&
        chkG C ⟨relS scope S.sc, fun x => scope.names.lookup x == some .cell⟩ g tg && (slotsG g).all (fun i => own.any fun p => decide (p.2 = i)) &&
        (match ifs with
          | [] => (match c with
            | .yes => true
            | _ => false)
          | [z] => chkT C ⟨relS scope S.sc, fun x => scope.names.lookup x == some .cell⟩ c [z] none
          | _ => false) && chkE C ⟨relS scope S.sc, fun x => scope.names.lookup x == some .cell⟩ e [elt] none
    | _ => false
  | .lcl own i g c e, l, _ => match l with
    | [.ListComp elt [⟨tg, .Name x _, ifs, as⟩] scope _] => decide (as = 0) && nmS C S i x && blkC C.N S.sc scope own &&
        chkG C ⟨relS scope S.sc, fun x => scope.names.lookup x == some .cell⟩ g tg && (slotsG g).all (fun i => own.any fun p => decide (p.2 = i)) &&
        (match ifs with
          | [] => (match c with
            | .yes => true
            | _ => false)
          | [z] => chkT C ⟨relS scope S.sc, fun x => scope.names.lookup x == some .cell⟩ c [z] none
          | _ => false) && chkE C ⟨relS scope S.sc, fun x => scope.names.lookup x == some .cell⟩ e [elt] none
    | _ => false
  | .lcd own i g c e, l, _ => match l with
    | [.ListComp elt [⟨tg, .Name x _, ifs, as⟩] scope _] => decide (as = 0) && nmS C S i x && blkC C.N S.sc scope own &&
        chkG C ⟨relS scope S.sc, fun x => scope.names.lookup x == some .cell⟩ g tg && (slotsG g).all (fun i => own.any fun p => decide (p.2 = i)) &&
        (match ifs with
          | [] => (match c with
            | .yes => true
            | _ => false)
          | [z] => chkT C ⟨relS scope S.sc, fun x => scope.names.lookup x == some .cell⟩ c [z] none
          | _ => false) && chkE C ⟨relS scope S.sc, fun x => scope.names.lookup x == some .cell⟩ e [elt] none
    | _ => false
  | .dcm own g it c k e, l, _ => match l with
    | [.DictComp key elt [⟨tg, iter, ifs, as⟩] scope _] => decide (as = 0) && chkI C S it tg iter && blkC C.N S.sc scope own &&
        chkG C ⟨relS scope S.sc, fun x => scope.names.lookup x == some .cell⟩ g tg && (slotsG g).all (fun i => own.any fun p => decide (p.2 = i)) &&
        (match ifs with
          | [] => (match c with
            | .yes => true
            | _ => false)
          | [z] => chkT C ⟨relS scope S.sc, fun x => scope.names.lookup x == some .cell⟩ c [z] none
          | _ => false) && chkE C ⟨relS scope S.sc, fun x => scope.names.lookup x == some .cell⟩ k [key] none && chkE C ⟨relS scope S.sc, fun x => scope.names.lookup x == some .cell⟩ e [elt] none
    | _ => false
  | .lrg a, l, _ => match l with
    | [.Call (.Name x _) [.Call (.Name y _) [z] [] _] [] _] => decide (x = "list") && glS S x && decide (y = "range") && glS S y && chkE C S a [z] none
    | _ => false
  | .lrg2 a b, l, _ => match l with
    | [.Call (.Name x _) [.Call (.Name y _) [z, w] [] _] [] _] => decide (x = "list") && glS S x && decide (y = "range") && glS S y && chkE C S a [z] none && chkE C S b [w] none
    | _ => false
  | .mt m i es, l, _ => match l with
    | [.Call (.Attribute (.Name x _) a ap) zs [] cp] => nmS C S i x && decide (a = m.nm) && (ap.endLine == cp.line) && chkL C S es zs && zs.all plainA && decide (zs.length ≤ 2)
    | _ => false
  | .dic es, l, _ => match l with
    | [.Dict ks vs _] => (match kvE ks vs with
      | some zs => consL es && chkL C S es zs && zs.all plainA && decide (ks.length ≤ 15)
      | none => false)
    | _ => false
  | .dget i k e, l, _ => match l with
    | [.Call (.Attribute (.Name x _) a ap) [y, z] [] cp] => nmS C S i x && decide (a = "get") && (ap.endLine == cp.line) && chkE C S k [y] none && chkE C S e [z] none
    | _ => false
  | .dix i k, l, _ => match l with
    | [.Subscript (.Name x _) y _] => nmS C S i x && chkE C S k [y] none
    | _ => false
  | .din n i k, l, _ => match l with
    | [.Compare y [o] [.Name x _] _] => decide (o = if n = true then CmpOp.NotIn else CmpOp.In) && nmS C S i x && chkE C S k [y] none
    | _ => false
  | .bits a, l, _ => match l with
    | [.Call (.Attribute (.Name x p) m ap) [] [] cp] => decide (m = "bit_length") && (ap.endLine == cp.line) && chkE C S a [.Name x p] none
    | _ => false
def chkT (C : Cfg) (S : Sc) : IT → List Expr → Option BoolOp → Bool
  | .yes, _, _ => false
  | .e a, l, _ => match l with
    | [z] => chkE C S a [z] none && (tstA z || (match a, z with
      | .cmp .., .Compare .. => true
      | .ch .., .Compare .. => true
      | .din .., .Compare .. => true
      | _, _ => false))
    | _ => false
  | .not a, l, _ => match l with
    | [.UnaryOp .Not x _] => chkT C S a [x] none
    | _ => false
  | .and a b, l, k => match l, k with
    | [.BoolOp .And (x :: y :: r) _], _ => chkT C S a [x] none && chkT C S b (y :: r) (some .And)
    | x :: y :: r, some .And => chkT C S a [x] none && chkT C S b (y :: r) (some .And)
    | _, _ => false
  | .or a b, l, k => match l, k with
    | [.BoolOp .Or (x :: y :: r) _], _ => chkT C S a [x] none && chkT C S b (y :: r) (some .Or)
    | x :: y :: r, some .Or => chkT C S a [x] none && chkT C S b (y :: r) (some .Or)
    | _, _ => false
  | .ife _ _ _, _, _ => false
def chkL (C : Cfg) (S : Sc) : IL → List Expr → Bool
  | .nil, l => l.isEmpty
  | .cons a r, l => match l with
    | z :: zs => chkE C S a [z] none && chkL C S r zs
    | [] => false
  | .star a r, l => match l with
    | .Starred z _ :: zs => chkE C S a [z] none && chkL C S r zs
    | _ => false
  | .io i r, l => match l with
    | .Name x _ :: zs => nmS C S i x && chkL C S r zs
    | _ => false
def chkO (C : Cfg) (S : Sc) : IO → Option Expr → Bool
  | .no, l => l.isNone
  | .so a, l => match l with
    | some z => chkE C S a [z] none
    | none => false
def chkI (C : Cfg) (S : Sc) : II → Expr → Expr → Bool
  | .e a, _, it => chkE C S a [it] none
  | .r1 a, _, it => match it with
    | .Call (.Name x _) [z] [] _ => decide (x = "range") && glS S x && chkE C S a [z] none
    | _ => false
  | .r2 a b, _, it => match it with
    | .Call (.Name x _) [z, w] [] _ => decide (x = "range") && glS S x && chkE C S a [z] none && chkE C S b [w] none
    | _ => false
  | .rd a b, _, it => match it with
    | .Call (.Name x _) [z, w, .UnaryOp .USub (.Constant (.int 1) _ _) _] [] _ => decide (x = "range") && glS S x && chkE C S a [z] none && chkE C S b [w] none
    | _ => false
  | .zip a b, tg, it => match it with
    | .Call (.Name x _) [z, w] [] _ => isTupA tg && decide (x = "zip") && glS S x && chkE C S a [z] none && chkE C S b [w] none
    | _ => false
  | .enum a, tg, it => match it with
    | .Call (.Name x _) [z] [] _ => isTupA tg && decide (x = "enumerate") && glS S x && chkE C S a [z] none
    | _ => false
end
theorem chk_plain (C : Cfg) (S : Sc) (e : IE) (z : Expr) (h : chkE C S e [z] none = true) : plainA z = true := by
  cases z <;> first | rfl | (cases e <;> exact absurd h Bool.false_ne_true)
end PF

/-! PF5: what a def promises (FnG), the context (COk), readings of the small language's parts, lemmas for comprehensions. -/
namespace PF
open PySem PySem.Spec PyProof.Rows L2

/-! ### a def's promise -/
def LentAt (vs : List V) (as : List Sl) (p : Addr) : Prop := ∃ (i : Nat) (ds : List PyData), as[i]? = some (.b ds) ∧ vs[i]? = some (.ref p)
def ArgR (K : PySem.W.Frag) (F H : Hp) (v : V) : Sl → Prop
  | .v d => Dq K F v d
  | .b ds => ∃ p ws, v = .ref p ∧ F p = none ∧ H p = some (.lst ws) ∧ DqAll K F ws ds
  | .o _ => False
  | .w _ => False
structure FPost (K : PySem.W.Frag) (vs : List V) (as : List Sl) (H F H' F' : Hp) (v : V) (r : Sl) (l : List PyData) : Prop where
  mono : Same F F'
  sub : Same F' H'
  keep : ∀ b o, H b = some o → NT o → ¬ LentAt vs as b → H' b = some o
  live : ∀ b, H b ≠ none → H' b ≠ none
  fresh : ∀ b, F' b ≠ none → F b ≠ none ∨ H b = none
  res : RV K H H' F' v r
  lent : ∀ p, LentAt vs as p → F' p = none ∧ ∃ ws, H' p = some (.lst ws) ∧ DqAll K F' ws l
  tabs : Tm K H H'
abbrev DefG := List Sl → Option (Sl × List PyData)
def spF (K : PySem.W.Frag) (g : DefG) (vs : List V) (H : Hp) (Q : VK) : Prop :=
  ∃ F as r l, Same F H ∧ TabF K F H ∧ Paired (ArgR K F H) vs as ∧ (∀ (i j : Nat) (d e : List PyData), as[i]? = some (.b d) → as[j]? = some (.b e) → i = j) ∧ g as = some (r, l) ∧ ∀ v H' F', FPost K vs as H F H' F' v r l → Q v H'
structure FnG (P : Program) (w : World) (K : PySem.W.Frag) (mg : Str → Option Value) (base : Heap) (n : Nat) (a : Addr) (fd : FuncData) (ps : List Str) (g : DefG) : Prop where
  len : ∀ as r, g as = some r → as.length = ps.length
  run : ∀ (A : Around) (outer : List Env) (s : Shared) (H : Hp) (args : Args) (us : List Value) (vs : List V) (Q : VK), Room n A → A.guards = some [] → Env0 P w K mg base A outer s H → BindsTo s fd args (ps.zip us) → Vals vs us → spF K g vs H Q →
    codeAny (model P w) A (.call (.ref a) args) (CR CX0 outer P w H s Q E0) s
structure FnP (P : Program) (w : World) (K : PySem.W.Frag) (mg : Str → Option Value) (base : Heap) (n : Nat) (a : Addr) (g : DefG) : Prop where
  kp : PySem.W.keepIn K (.ref a) = true
  ex : ∃ fd ps, L2.Binds K fd ps [] ∧ FnG P w K mg base n a fd ps g

def blts : List Str := ["len", "abs", "int", "max", "min", "sum", "all", "any", "repr", "tuple", "list", "sorted", "str", "range", "zip", "enumerate", "isinstance", "bool", "dict", "divmod"]
structure COk (X : Cx) (C : Cfg) (Γ : Tab) (n : Nat) : Prop where
  calm : X.calm = true
  N : X.N = C.N
  nd : X.N.Nodup
  room : Room n X.A
  guards : X.A.guards = some []
  blt : ∀ x ∈ blts, X.mg x = none
  cons : ∀ x d, C.cons.lookup x = some d → ∃ u v, X.mg x = some u ∧ RelV v u ∧ ∀ F, Dq X.K F v d
  fns : ∀ f x, C.fns[f]? = some x → ∃ a, X.mg x = some (.ref a) ∧ FnP X.prog X.w X.K X.mg X.base n a (Γ f)
structure SOk (X : Cx) (S : Sc) : Prop where
  sc : X.env.scope = S.sc
  fb : ∀ x, S.fb x = true → X.fn x = true
section
variable {X : Cx} {C : Cfg} {S : Sc} {Γ : Tab} {n : Nat}
theorem COk.units (h : COk X C Γ n) : X.A.units + 65 < cLine := by
  have := h.room.un
  omega
theorem vis_of (h : SOk X S) {x : Str} (e : visS S x = true) : Vis X.env.scope x := by
  unfold visS at e
  unfold Vis
  rw [h.sc]
  split at e
  · exact .inl (by assumption)
  · exact .inr (.inl (by assumption))
  · exact .inr (.inr (by assumption))
  · cases e
theorem loc_of (h : SOk X S) {x : Str} (e : locS S x = true) : L2.Loc X.env.scope x ∧ (X.fn x = true ∨ X.env.scope.names.lookup x = some .local) := by
  unfold locS at e
  unfold L2.Loc
  rw [h.sc]
  split at e
  · exact ⟨.inl (by assumption), .inr (by assumption)⟩
  · exact ⟨.inr (by assumption), .inl (h.fb _ e)⟩
  · cases e
theorem gl_of (h : SOk X S) {x : Str} (e : glS S x = true) : Gl X x := by
  show X.env.scope.names.lookup x = _
  rw [h.sc]
  exact of_decide_eq_true e
theorem okN_1 {x : Str} (e : okN x = true) : (x == ("__debug__" : Str)) = false := by
  unfold okN at e
  rw [Bool.and_eq_true] at e
  exact Bool.not_eq_true' _ ▸ e.1
theorem okN_2 {x : Str} (e : okN x = true) : (x == ("__classdict__" : Str)) = false := by
  unfold okN at e
  rw [Bool.and_eq_true] at e
  exact Bool.not_eq_true' _ ▸ e.2
theorem pe_nm (hC : COk X C Γ n) (hS : SOk X S) {i : Nat} {x : Str} {p : Pos} (e : nmS C S i x = true) : PE X (.Name x p) (tVar i) := by
  unfold nmS at e
  rw [Bool.and_eq_true, Bool.and_eq_true] at e
  exact pe_var (by rw [hC.N]; exact of_decide_eq_true e.1.1) (vis_of hS e.1.2) (okN_1 e.2) (okN_2 e.2)
theorem blt_of (hC : COk X C Γ n) {x : Str} (h : blts.contains x = true) : X.mg x = none := hC.blt x (by simpa using h)

/-! ### what a plain tree is -/
theorem plain_star {z : Expr} (h : plainA z = true) (zs : List Expr) (env : Env) : starEach (z :: zs) env = (false, eval z env) :: starEach zs env := by
  cases z <;> first | exact absurd h Bool.false_ne_true | rfl
theorem plain_marks {z : Expr} (h : plainA z = true) (op : CmpOp) : behindInMarks op z = false := by
  cases z <;> first | exact absurd h Bool.false_ne_true | rfl
theorem plain_ix {z : Expr} (h : plainA z = true) : PlainIx z := by
  cases z <;> first | exact absurd h Bool.false_ne_true | exact fun _ _ => rfl
theorem plain_folded {z : Expr} (h : plainA z = true) (env : Env) (x : Value) : foldedSetIterable z env x = pure x := by
  cases z <;> first | exact absurd h Bool.false_ne_true | rfl
theorem plain_tst {z : Expr} (h : tstA z = true) (env : Env) (whole : Sem Value) : PySem.isTrue z env whole = (do let v ← whole; standAt z.pos; holding [v] (truthy v)) := by
  cases z <;> first | exact absurd h Bool.false_ne_true | rfl
theorem plain_any : ∀ {zs : List Expr} (h : zs.all plainA = true) (pos : Pos) (env : Env), (backTo pos (starEach zs env)).any (·.1) = false
  | [], _, _, _ => rfl
  | z :: zs, h, pos, env => by
    rw [List.all_cons, Bool.and_eq_true] at h
    rw [plain_star h.1]
    show (false || (backTo pos (starEach zs env)).any (·.1)) = false
    rw [plain_any h.2 pos env]
    rfl
theorem plain_all : ∀ {zs : List Expr} (h : zs.all plainA = true) (pos : Pos) (env : Env), (backTo pos (starEach zs env)).all (fun x => !x.1) = true
  | [], _, _, _ => rfl
  | z :: zs, h, pos, env => by
    rw [List.all_cons, Bool.and_eq_true] at h
    rw [plain_star h.1]
    show (true && (backTo pos (starEach zs env)).all (fun x => !x.1)) = true
    rw [plain_all h.2 pos env]
    rfl
theorem pe_mono {e : Expr} {t t' : TE} (h : PE X e t) (f : ∀ σ H Q, t' σ H Q → t σ H Q) : PE X e t' := ⟨fun pins s σ H Q I q => h.run pins s σ H Q I (f σ H Q q)⟩
theorem pt_mono {e : Expr} {t t' : TT} (h : PT X e t) (f : ∀ σ H Q, t' σ H Q → t σ H Q) : PT X e t' := ⟨fun pins s σ H Q I q => h.run pins s σ H Q I (f σ H Q q)⟩
theorem pw_mono {e : Expr} {t t' : TT} (h : PW X e t) (f : ∀ σ H Q, t' σ H Q → t σ H Q) : PW X e t' := ⟨fun wh pins s σ H Q I q => h.run wh pins s σ H Q I (f σ H Q q)⟩
theorem pa_mono {es : List Expr} {t t' : TA} (h : PA X es t) (f : ∀ σ H Q, t' σ H Q → t σ H Q) : PA X es t' := ⟨fun pos pins s σ H Q I q => h.run pos pins s σ H Q I (f σ H Q q)⟩
theorem pg_mono {e : Expr} {t t' : TG} (h : PG X e t) (f : ∀ v σ H Q, t' v σ H Q → t v σ H Q) : PG X e t' := ⟨fun pins s σ H v u Q I r q => h.run pins s σ H v u Q I r (f v σ H Q q)⟩
theorem pgs_mono {es : List Expr} {t t' : TGs} (h : PGs X es t) (f : ∀ v σ H Q, t' v σ H Q → t v σ H Q) : PGs X es t' := ⟨fun pins s σ H v u Q I r q => h.run pins s σ H v u Q I r (f v σ H Q q)⟩
theorem ps_mono {e : Stmt} {t t' : TS} (h : PS X e t) (f : ∀ D σ H, t' D σ H → t D σ H) : PS X e t' := ⟨fun pins s σ H D I q => h.run pins s σ H D I (f D σ H q)⟩
theorem pss_mono {e : List Stmt} {t t' : TS} (h : PSs X e t) (f : ∀ D σ H, t' D σ H → t D σ H) : PSs X e t' := ⟨fun pins s σ H D I q => h.run pins s σ H D I (f D σ H q)⟩
theorem pi_mono {tg e : Expr} {t t' : TI} (h : PI X tg e t) (f : ∀ σ H R, t' σ H R → t σ H R) : PI X tg e t' := ⟨fun pins s σ H R I q => h.run pins s σ H R I (f σ H R q)⟩
theorem po_mono {e : Option Expr} {t t' : TO} (h : PO X e t) (f : ∀ σ H Q, t' σ H Q → t σ H Q) : PO X e t' := ⟨fun pins s σ H Q I q => h.run pins s σ H Q I (f σ H Q q)⟩

/-! ### the call of a def -/
theorem paired_len {α β : Type} {R : α → β → Prop} : ∀ {l : List α} {m : List β}, Paired R l m → l.length = m.length
  | _, _, .nil => rfl
  | _, _, .cons _ t => by rw [List.length_cons, List.length_cons, paired_len t]
theorem run_fnG {a : Addr} {g : DefG} {pins : List (Addr × Obj)} {σ : L2.St} {H : Hp} {s : Shared} {Q : VK} {us : List Value} {vs : List V} (F : FnP X.prog X.w X.K X.mg X.base n a g) (hr : Room n X.A) (hg : X.A.guards = some []) (I : L2.Inv X pins σ H s)
    (r : Vals vs us) (h : spF X.K g vs H Q) : wpAny (model X.prog X.w) X.A (call (.ref a) us) (EP X pins σ Q) X.xe s := by
  obtain ⟨fd, ps, hb, G⟩ := F.ex
  have hl : us.length = ps.length := by
    obtain ⟨F, as, x, l, _, _, h2, _, h4, _⟩ := h
    rw [← G.len as _ h4, ← paired_len h2, r.length]
  have hb' := hb s us I.kIn (by rw [List.append_nil]; exact hl)
  rw [List.append_nil] at hb'
  refine wpAny_call (codeAny_mono (G.run X.A X.stack s H ⟨us, []⟩ us vs Q hr hg I.env0 hb' r h) fun x s' hq => ?_)
  cases x with
  | error e => exact False.elim hq
  | ok fl =>
    cases fl with
    | ret u => exact I.after hq
    | next => exact False.elim hq
    | brk => exact False.elim hq
    | cont => exact False.elim hq
def tCG (K : PySem.W.Frag) (g : DefG) (t : TA) : TE := fun σ H Q => t σ H fun vs H1 => spF K g vs H1 Q
theorem pe_callG {a : Addr} {g : DefG} {x : Str} {p pos : Pos} {z : Expr} {zs : List Expr} {t : TA} (hC : COk X C Γ n) (F : FnP X.prog X.w X.K X.mg X.base n a g) (hg : Gl X x) (hm : X.mg x = some (.ref a)) (hx : okN x = true) (ha : PA X (z :: zs) t) (hp : (z :: zs).all plainA = true) :
    PE X (.Call (.Name x p) (z :: zs) [] pos) (tCG X.K g t) := by
  refine ⟨fun pins s σ H Q I h => ?_⟩
  refine wpAny_Call_Name_kw (ld_glob I hg hm ?_ (okN_1 hx))
  rw [List.all_cons, Bool.and_eq_true] at hp
  refine PySem.W.callWith_K (h₀ := X.base) I.ok.mod.kin F.kp (thn (ha.run pos pins s σ H _ I h) fun us s1 ⟨vs, H1, I1, r, q⟩ => ⟨I1.kIn, ?_⟩) (plain_star hp.1 _ _) (plain_any hp.2 _ _)
  exact run_fnG F hC.room hC.guards I1 r q
theorem pe_callG0 {a : Addr} {g : DefG} {x : Str} {p pos : Pos} (hC : COk X C Γ n) (F : FnP X.prog X.w X.K X.mg X.base n a g) (hg : Gl X x) (hm : X.mg x = some (.ref a)) (hx : okN x = true) :
    PE X (.Call (.Name x p) [] [] pos) (fun σ H Q => spF X.K g [] H Q) := by
  refine ⟨fun pins s σ H Q I h => ?_⟩
  refine wpAny_Call_Name_kw (ld_glob I hg hm ?_ (okN_1 hx))
  exact PySem.W.callWith_K0 I.kIn F.kp (run_fnG (us := []) F hC.room hC.guards I .nil h)
end
end PF

/-! PF5b: lemmas for loops and comprehensions. -/
namespace PF
open PySem PySem.Spec PyProof.Rows L2
section
variable {K : PySem.W.Frag} {G : Gh} {σ : L2.St} {H F H' F' : Hp} {env env' : En}
/-- behind a call that was lent a name's list -/
theorem Rel.lent (R : Rel K G σ H F env) {i : Nat} {s s' : Sl} {ds l : List PyData} {p : Addr} {ws : List V} (h : env.at i = some s) (hm : s.m = some (.l ds)) (a : σ[i]? = some (some (.ref p)))
    (mono : Same F F') (sub : Same F' H') (keep : ∀ b o, H b = some o → NT o → b ≠ p → H' b = some o) (live : ∀ b, H b ≠ none → H' b ≠ none) (tm : Tm K H H') (fresh : ∀ b, F' b ≠ none → F b ≠ none ∨ H b = none)
    (fp : F' p = none) (hp : H' p = some (.lst ws)) (q : DqAll K F' ws l) (hm' : s'.m = some (.l l)) (hb : isB s' = isB s) :
    Rel K G σ H' F' (env.set i (some s')) ∧ Ext K σ env H F H' F' (env.set i (some s')) := by
  obtain ⟨p2, vs, a2, f2, hp2, _, _, _⟩ := R.mu i s ds h hm
  rw [a] at a2
  cases a2
  have e : upd (upd H' p (.lst vs)) p (.lst ws) = H' := by
    rw [upd_upd]
    funext b
    unfold upd
    split
    · rename_i hb2
      rw [hb2]
      exact hp.symm
    · rfl
  obtain ⟨R1, E1⟩ := R.growT (F' := F') (H' := upd H' p (.lst vs)) mono (fun b o z => by
    rw [upd_ne (ne_of_none z fp)]
    exact sub b o z) (fun b o z nt => by
    by_cases hb2 : b = p
    · subst hb2
      rw [upd_same, ← z]
      exact hp2.symm
    · rw [upd_ne hb2]
      exact keep b o z nt hb2) (fun b z => by
    by_cases hb2 : b = p
    · rw [hb2, upd_same]
      simp
    · rw [upd_ne hb2]
      exact live b z) fresh (tm.trans (Tm.upd (Da.of hp (.inl ⟨_, rfl⟩)) .lst))
  obtain ⟨R2, E2⟩ := R1.change (ws := ws) h hm a upd_same hm' hb q
  rw [e] at R2 E2
  exact ⟨R2, E1.trans E2⟩
/-- a list that is nobody's is changed -/
theorem Rel.poke (R : Rel K G σ H F env) {p : Addr} {o : HO} (g0 : G.H0 p = none) (f : F p = none) (no : ¬ Own σ env p) (da : Da H p) (nl : NL o := by first | exact NL.lst | exact NL.tup | exact NL.dK | exact NL.fdK | (intro _ _ z; cases z) | (intro _ _ z; unfold LamX.CodeO at z; cases z)) : Rel K G σ (upd H p o) F env := by
  refine ⟨R.len, fun b u e => ?_, R.base, fun b u e nt n => ?_, fun b e => ?_, R.new, R.val, fun i s ds h hm => ?_, R.apart, R.tabs.trans (Tm.upd da nl), R.ent.tm (Tm.upd da nl)⟩
  · rw [upd_ne (ne_of_none e f)]
    exact R.sub b u e
  · rw [upd_ne (ne_of_none e g0)]
    exact R.fro b u e nt n
  · by_cases hb : b = p
    · subst hb
      rw [upd_same]
      simp
    · rw [upd_ne hb]
      exact R.live b e
  · obtain ⟨p2, vs, a, f2, hp, q, b1, b2⟩ := R.mug i s ds h hm
    refine ⟨p2, vs, a, f2, ?_, q, b1, b2⟩
    rw [upd_ne]
    · exact hp
    · rintro rfl
      exact no ⟨i, s, ds, h, hm, a⟩
/-! ### a comprehension's own names -/
def ixs (own : List (Str × Nat)) : List Nat := own.map (·.2)
theorem wipeE_len (env : En) : ∀ own : List (Str × Nat), (wipeE env own).length = env.length
  | [] => rfl
  | p :: r => by
    unfold wipeE
    rw [List.length_set, wipeE_len env r]
theorem backE_len (e0 env : En) : ∀ own : List (Str × Nat), (backE e0 env own).length = env.length
  | [] => rfl
  | p :: r => by
    unfold backE
    rw [List.length_set, backE_len e0 env r]
theorem wipeE_at (env : En) (i : Nat) : ∀ own : List (Str × Nat), (wipeE env own).at i = if i ∈ ixs own then none else env.at i
  | [] => by simp [ixs, wipeE]
  | p :: r => by
    unfold wipeE
    rw [at_set, wipeE_at env i r, wipeE_len]
    unfold ixs
    rw [List.map_cons]
    by_cases h : p.2 = i
    · subst h
      by_cases hl : p.2 < env.length
      · rw [if_pos ⟨rfl, hl⟩, if_pos List.mem_cons_self]
      · rw [if_neg fun z => hl z.2, if_pos List.mem_cons_self]
        split
        · rfl
        · unfold En.at
          rw [List.getElem?_eq_none (by omega)]
          rfl
    · rw [if_neg fun z => h z.1]
      by_cases hm : i ∈ r.map (·.2)
      · rw [if_pos hm, if_pos (List.mem_cons_of_mem _ hm)]
      · rw [if_neg hm, if_neg]
        intro z
        rcases List.mem_cons.mp z with z | z
        · exact h z.symm
        · exact hm z
theorem backE_at (e0 env : En) (hl : e0.length = env.length) (i : Nat) : ∀ own : List (Str × Nat), (backE e0 env own).at i = if i ∈ ixs own then e0.at i else env.at i
  | [] => by simp [ixs, backE]
  | p :: r => by
    unfold backE
    rw [at_set, backE_at e0 env hl i r, backE_len]
    unfold ixs
    rw [List.map_cons]
    by_cases h : p.2 = i
    · subst h
      by_cases hl2 : p.2 < env.length
      · rw [if_pos ⟨rfl, hl2⟩, if_pos List.mem_cons_self]
        rfl
      · rw [if_neg fun z => hl2 z.2, if_pos List.mem_cons_self]
        have n1 : env.at p.2 = none := by
          unfold En.at
          rw [List.getElem?_eq_none (by omega)]
          rfl
        have n2 : e0.at p.2 = none := by
          unfold En.at
          rw [List.getElem?_eq_none (by omega)]
          rfl
        rw [n1, n2]
        split <;> rfl
    · rw [if_neg fun z => h z.1]
      by_cases hm : i ∈ r.map (·.2)
      · rw [if_pos hm, if_pos (List.mem_cons_of_mem _ hm)]
      · rw [if_neg hm, if_neg]
        intro z
        rcases List.mem_cons.mp z with z | z
        · exact h z.symm
        · exact hm z
theorem wipe_get (σ : L2.St) (i : Nat) : ∀ vs : List Nat, i ∉ vs → (wipe σ vs)[i]? = σ[i]?
  | [], _ => rfl
  | v :: vs, h => by
    unfold wipe
    rw [st_get, if_neg fun (z : v = i) => h (by rw [← z]; exact List.mem_cons_self)]
    exact wipe_get σ i vs fun z => h (List.mem_cons_of_mem _ z)
theorem wipe_in (σ : L2.St) (i : Nat) : ∀ vs : List Nat, i ∈ vs → i < σ.length → (wipe σ vs)[i]? = some none
  | v :: vs, h, hl => by
    unfold wipe
    rw [st_get, wipe_length]
    by_cases e : v = i
    · rw [if_pos e, if_pos (by omega)]
    · rw [if_neg e]
      exact wipe_in σ i vs ((List.mem_cons.mp h).resolve_left fun z => e z.symm) hl
theorem wipe_eq {σ τ : L2.St} {vs : List Nat} (hl : σ.length = τ.length) (h : ∀ i, i ∉ vs → σ[i]? = τ[i]?) : wipe σ vs = wipe τ vs := by
  apply List.ext_getElem?
  intro i
  by_cases hm : i ∈ vs
  · by_cases hi : i < σ.length
    · rw [wipe_in σ i vs hm hi, wipe_in τ i vs hm (by omega)]
    · rw [List.getElem?_eq_none (by rw [wipe_length]; omega), List.getElem?_eq_none (by rw [wipe_length]; omega)]
  · rw [wipe_get σ i vs hm, wipe_get τ i vs hm]
    exact h i hm
theorem wipe_wipe (σ : L2.St) (vs : List Nat) : wipe (wipe σ vs) vs = wipe σ vs := wipe_eq (wipe_length σ vs) fun i h => wipe_get σ i vs h
theorem Rel.wiped (R : Rel K G σ H F env) (own : List (Str × Nat)) : Rel K G (wipe σ (ixs own)) H F (wipeE env own) ∧ ∀ b, Own (wipe σ (ixs own)) (wipeE env own) b → Own σ env b := by
  have key : ∀ i s, (wipeE env own).at i = some s → i ∉ ixs own ∧ env.at i = some s := fun i s e => by
    rw [wipeE_at] at e
    by_cases hm : i ∈ ixs own
    · rw [if_pos hm] at e
      cases e
    · rw [if_neg hm] at e
      exact ⟨hm, e⟩
  refine ⟨⟨by rw [wipeE_len, wipe_length]; exact R.len, R.sub, R.base, R.fro, R.live, R.new, fun i d e => ?_, fun i s ds e hm => ?_, fun i j p n z1 z2 g1 g2 => ?_, R.tabs, R.ent⟩, fun b z => ?_⟩
  · obtain ⟨n, e'⟩ := key i _ e
    rw [wipe_get σ i _ n]
    exact R.val i d e'
  · obtain ⟨n, e'⟩ := key i _ e
    rw [wipe_get σ i _ n]
    exact R.mug i s ds e' hm
  · obtain ⟨s, ds, e, hm⟩ := z1
    obtain ⟨s', ds', e', hm'⟩ := z2
    obtain ⟨n1, k1⟩ := key i s e
    obtain ⟨n2, k2⟩ := key j s' e'
    rw [wipe_get σ i _ n1] at g1
    rw [wipe_get σ j _ n2] at g2
    exact R.apart i j p n ⟨s, ds, k1, hm⟩ ⟨s', ds', k2, hm'⟩ g1 g2
  · obtain ⟨i, s, ds, e, hm, g⟩ := z
    obtain ⟨n, e'⟩ := key i s e
    rw [wipe_get σ i _ n] at g
    exact ⟨i, s, ds, e', hm, g⟩
theorem noOwn_at {env : En} {i : Nat} {s : Sl} : ∀ {own : List (Str × Nat)}, noOwn env own = true → i ∈ ixs own → env.at i = some s → s.m = none
  | [], _, hm, _ => by simp [ixs] at hm
  | p :: r, h, hm, e => by
    unfold noOwn at h
    rw [Bool.and_eq_true] at h
    unfold ixs at hm
    rw [List.map_cons] at hm
    rcases List.mem_cons.mp hm with z | z
    · have h1 := h.1
      rw [← z, e] at h1
      cases s with
      | v d => rfl
      | o ds => cases h1
      | b ds => cases h1
      | w ds => cases h1
    · exact noOwn_at h.2 z e
theorem Rel.back {H1 F1 : Hp} {e1 : En} {own : List (Str × Nat)} (R1 : Rel K G σ H1 F1 e1) (hn : noOwn e1 own = true) (R : Rel K G (wipe σ (ixs own)) H F env) (m : Same F1 F) :
    Rel K G σ H F (backE e1 env own) ∧ ∀ b, Own σ (backE e1 env own) b → Own (wipe σ (ixs own)) env b := by
  have hlen : e1.length = env.length := by rw [R1.len, R.len, wipe_length]
  have key : ∀ i s, (backE e1 env own).at i = some s → (i ∈ ixs own ∧ e1.at i = some s ∧ s.m = none) ∨ (i ∉ ixs own ∧ env.at i = some s) := fun i s e => by
    rw [backE_at e1 env hlen] at e
    by_cases hm : i ∈ ixs own
    · rw [if_pos hm] at e
      exact .inl ⟨hm, e, noOwn_at hn hm e⟩
    · rw [if_neg hm] at e
      exact .inr ⟨hm, e⟩
  have mut1 : ∀ i s ds, (backE e1 env own).at i = some s → s.m = some ds → i ∉ ixs own ∧ env.at i = some s := fun i s ds e hm => by
    rcases key i s e with ⟨_, _, z⟩ | z
    · rw [z] at hm
      cases hm
    · exact z
  refine ⟨⟨by rw [backE_len, R.len, wipe_length], R.sub, R.base, R.fro, R.live, R.new, fun i d e => ?_, fun i s ds e hm => ?_, fun i j p n z1 z2 g1 g2 => ?_, R.tabs, R.ent⟩, fun b z => ?_⟩
  · rcases key i _ e with ⟨_, e', _⟩ | ⟨n, e'⟩
    · obtain ⟨v, a, q⟩ := R1.val i d e'
      exact ⟨v, a, dpMono m d q⟩
    · have := R.val i d e'
      rw [wipe_get σ i _ n] at this
      exact this
  · obtain ⟨n, e'⟩ := mut1 i s ds e hm
    have := R.mug i s ds e' hm
    rw [wipe_get σ i _ n] at this
    exact this
  · obtain ⟨s, ds, e, hm⟩ := z1
    obtain ⟨s', ds', e', hm'⟩ := z2
    obtain ⟨n1, k1⟩ := mut1 i s ds e hm
    obtain ⟨n2, k2⟩ := mut1 j s' ds' e' hm'
    rw [← wipe_get σ i _ n1] at g1
    rw [← wipe_get σ j _ n2] at g2
    exact R.apart i j p n ⟨s, ds, k1, hm⟩ ⟨s', ds', k2, hm'⟩ g1 g2
  · obtain ⟨i, s, ds, e, hm, g⟩ := z
    obtain ⟨n, e'⟩ := mut1 i s ds e hm
    rw [← wipe_get σ i _ n] at g
    exact ⟨i, s, ds, e', hm, g⟩
end
/-! ### what is walked -/
section
variable {K : PySem.W.Frag}
/-- at each turn below n the walk gives the data's next item -/
structure WalkD (K : PySem.W.Frag) (F : Hp) (J : It) (ds : List PyData) : Prop where
  ex : ∃ (Gd : Hp → Prop) (Y : Nat → Hp → V → Hp → Prop), Walk J ds.length Gd Y ∧ (∀ H, Same F H → Gd H) ∧
    ∀ i H x H' F1, i < ds.length → Y i H x H' → Same F F1 → Same F1 H → ∃ F2, Same F1 F2 ∧ Same F2 H' ∧ Same H H' ∧ NFS H H' ∧ (∀ b, F2 b ≠ none → F1 b ≠ none ∨ H b = none) ∧ ∃ d, ds[i]? = some d ∧ Dq K F2 x d
theorem sqlMono {H H' : Hp} {a : Addr} {xs : List V} (e : Same H H') (h : SqL K H a xs) : SqL K H' a xs := e.seq h
theorem walkD_list {F : Hp} {p : Addr} {vs : List V} {ds : List PyData} (h : RdL K F p vs) (q : DqAll K F vs ds) : WalkD K F (Itl K p) ds := by
  refine ⟨fun H => SqL K H p vs, YAt vs, ?_, fun H s => (rdlMono s h).sql, fun i H x H' F1 hi y m s => ?_⟩
  · rw [← dpAll_len q]
    exact walk_list
  · obtain ⟨rfl, e⟩ := y
    obtain ⟨d, e2, q2⟩ := dpAll_get' q e
    exact ⟨F1, Same.refl _, s, Same.refl _, .refl _, fun _ z => .inl z, d, e2, dpMono m d q2⟩
theorem walkD_tup {F : Hp} {p : Addr} {vs : List V} {ds : List PyData} (h : SqT K F p vs) (q : DqAll K F vs ds) : WalkD K F (Itt K p) ds := by
  refine ⟨fun H => SqT K H p vs, YAt vs, ?_, fun H s => sqtMono s h, fun i H x H' F1 hi y m s => ?_⟩
  · rw [← dpAll_len q]
    exact walk_tup
  · obtain ⟨rfl, e⟩ := y
    obtain ⟨d, e2, q2⟩ := dpAll_get' q e
    exact ⟨F1, Same.refl _, s, Same.refl _, .refl _, fun _ z => .inl z, d, e2, dpMono m d q2⟩
theorem rngD_len (lo : Int) (n : Nat) : (rngD lo n).length = n := by
  unfold rngD
  rw [List.length_map, List.length_range]
theorem rngD_get {lo : Int} {n i : Nat} (h : i < n) : (rngD lo n)[i]? = some (.int (lo + i)) := by
  unfold rngD
  rw [List.getElem?_map, List.getElem?_range h]
  rfl
theorem walkD_range {F : Hp} (lo : Int) (n : Nat) : WalkD K F (Itr lo n) (rngD lo n) := by
  refine ⟨fun _ => True, YFn fun i => .int (lo + i), ?_, fun _ _ => trivial, fun i H x H' F1 hi y m s => ?_⟩
  · rw [rngD_len]
    exact walk_range
  · obtain ⟨rfl, rfl⟩ := y
    rw [rngD_len] at hi
    exact ⟨F1, Same.refl _, s, Same.refl _, .refl _, fun _ z => .inl z, _, rngD_get hi, .int _⟩
theorem dwnD_len (lo : Int) (n : Nat) : (dwnD lo n).length = n := by
  unfold dwnD
  rw [List.length_map, List.length_range]
theorem dwnD_get {lo : Int} {n i : Nat} (h : i < n) : (dwnD lo n)[i]? = some (.int (lo + (i : Nat) * -1)) := by
  unfold dwnD
  rw [List.getElem?_map, List.getElem?_range h]
  rfl
theorem walkD_down {F : Hp} (lo : Int) (n : Nat) : WalkD K F (Itc lo (-1) n) (dwnD lo n) := by
  refine ⟨fun _ => True, YFn fun i => .int (lo + (i : Nat) * -1), ?_, fun _ _ => trivial, fun i H x H' F1 hi y m s => ?_⟩
  · rw [dwnD_len]
    exact walk_rangeC
  · obtain ⟨rfl, rfl⟩ := y
    rw [dwnD_len] at hi
    exact ⟨F1, Same.refl _, s, Same.refl _, .refl _, fun _ z => .inl z, _, dwnD_get hi, .int _⟩
theorem pairStep {H H' F1 : Hp} {x : V} {a b : V} {da db : PyData} {T : Addr} (hx : x = .ref T) (hT : H T = none) (hH : H' = upd H T (.tup [a, b])) (s : Same F1 H) (qa : Dq K F1 a da) (qb : Dq K F1 b db) :
    ∃ F2, Same F1 F2 ∧ Same F2 H' ∧ Same H H' ∧ NFS H H' ∧ (∀ c, F2 c ≠ none → F1 c ≠ none ∨ H c = none) ∧ Dq K F2 x (.tuple [da, db]) := by
  subst hx hH
  have fT : F1 T = none := s.free hT
  have m1 : Same F1 (upd F1 T (.tup [a, b])) := same_upd1 fT
  refine ⟨upd F1 T (.tup [a, b]), m1, fun c o e => ?_, same_upd1 hT, .upd .tup, fun c h => ?_, .tup (.inl (.inl upd_same)) (dpAllMono m1 _ (.cons qa (.cons qb .nil)))⟩
  · by_cases hc : c = T
    · subst hc
      rw [upd_same] at e ⊢
      exact e
    · rw [upd_ne hc] at e ⊢
      exact s c o e
  · by_cases hc : c = T
    · subst hc
      exact .inr hT
    · rw [upd_ne hc] at h
      exact .inl h
theorem zipD_len : ∀ (xs ys : List PyData), (zipD xs ys).length = min xs.length ys.length
  | [], ys => by simp [zipD]
  | x :: xs, [] => by simp [zipD]
  | x :: xs, y :: ys => by
    unfold zipD
    rw [List.length_cons, zipD_len xs ys, List.length_cons, List.length_cons]
    omega
theorem zipD_get : ∀ {xs ys : List PyData} {i : Nat} {a b : PyData}, xs[i]? = some a → ys[i]? = some b → (zipD xs ys)[i]? = some (.tuple [a, b])
  | [], _, _, _, _, h, _ => by simp at h
  | _ :: _, [], _, _, _, _, h => by simp at h
  | x :: xs, y :: ys, 0, a, b, h1, h2 => by
    cases h1
    cases h2
    rfl
  | x :: xs, y :: ys, i + 1, a, b, h1, h2 => zipD_get (xs := xs) (ys := ys) (i := i) h1 h2
theorem walkD_zipL {F : Hp} {p p2 : Addr} {vs ws : List V} {ds es : List PyData} (h : RdL K F p vs) (q : DqAll K F vs ds) (h2 : RdL K F p2 ws) (q2 : DqAll K F ws es) : WalkD K F (Itz K p p2) (zipD ds es) := by
  refine ⟨fun H => SqL K H p vs ∧ SqL K H p2 ws, YPair (fun i => vs[i]?) (fun i => ws[i]?), ?_, fun H s => ⟨(rdlMono s h).sql, (rdlMono s h2).sql⟩, fun i H x H' F1 hi y m s => ?_⟩
  · exact walk_zip (by rw [zipD_len, dpAll_len q, dpAll_len q2])
  · obtain ⟨T, a, b, e1, e2, e3, e4, e5⟩ := y
    obtain ⟨da, g1, k1⟩ := dpAll_get' q e4
    obtain ⟨db, g2, k2⟩ := dpAll_get' q2 e5
    obtain ⟨F2, c1, c2, c3, cn, c4, c5⟩ := pairStep e1 e2 e3 s (dpMono m _ k1) (dpMono m _ k2)
    exact ⟨F2, c1, c2, c3, cn, c4, _, zipD_get g1 g2, c5⟩
theorem enumD_len : ∀ (i : Nat) (xs : List PyData), (enumD i xs).length = xs.length
  | _, [] => rfl
  | i, x :: xs => by
    unfold enumD
    rw [List.length_cons, enumD_len (i + 1) xs, List.length_cons]
theorem enumD_get : ∀ {j : Nat} {xs : List PyData} {i : Nat} {a : PyData}, xs[i]? = some a → (enumD j xs)[i]? = some (.tuple [.int ((j + i : Nat) : Int), a])
  | _, [], _, _, h => by simp at h
  | j, x :: xs, 0, a, h => by
    cases h
    rfl
  | j, x :: xs, i + 1, a, h => by
    have := enumD_get (j := j + 1) (xs := xs) (i := i) (a := a) (by simpa using h)
    unfold enumD
    rw [List.getElem?_cons_succ, this, show j + 1 + i = j + (i + 1) by omega]
theorem walkD_enumL {F : Hp} {p : Addr} {vs : List V} {ds : List PyData} (h : RdL K F p vs) (q : DqAll K F vs ds) : WalkD K F (Ite K p) (enumD 0 ds) := by
  refine ⟨fun H => SqL K H p vs, YPair (fun i => some (.int (i : Nat))) (fun i => vs[i]?), ?_, fun H s => (rdlMono s h).sql, fun i H x H' F1 hi y m s => ?_⟩
  · rw [enumD_len, ← dpAll_len q]
    exact walk_enum
  · obtain ⟨T, a, b, e1, e2, e3, e4, e5⟩ := y
    have e4' : V.int (i : Nat) = a := Option.some.inj e4
    subst e4'
    obtain ⟨db, g2, k2⟩ := dpAll_get' q e5
    obtain ⟨F2, c1, c2, c3, cn, c4, c5⟩ := pairStep e1 e2 e3 s (.int (i : Nat)) (dpMono m _ k2)
    refine ⟨F2, c1, c2, c3, cn, c4, _, enumD_get g2, ?_⟩
    rw [Nat.zero_add]
    exact c5
end
end PF

/-! PF6: readings of the small language, one lemma a form. -/
namespace PF
open PySem PySem.Spec PyProof.Rows L2
section
variable (K : PySem.W.Frag) (Γ : Tab) (C : List (Str × PyData))
def HV (σ : L2.St) (F : Hp) (v : V) : Hd → Prop
  | .d z => Dq K F v z
  | .s i => σ[i]? = some (some v)
def rE (e : IE) : TE := fun σ H Q => ∃ G F env r env', Rel K G σ H F env ∧ runE Γ C e env = some (r, env') ∧ ∀ v H' F', Rel K G σ H' F' env' → Ext K σ env H F H' F' env' → RV K H H' F' v r → Q v H'
def rH (e : IE) : TE := fun σ H Q => ∃ G F env h env', Rel K G σ H F env ∧ hd e (runE Γ C e env) env = some (h, env') ∧ ∀ v H' F', Rel K G σ H' F' env' → Ext K σ env H F H' F' env' → HV K σ F' v h → Q v H'
def rT (t : IT) : TT := fun σ H Q => ∃ G F env b env', Rel K G σ H F env ∧ runT Γ C t env = some (b, env') ∧ ∀ H' F', Rel K G σ H' F' env' → Ext K σ env H F H' F' env' → Q b H'
def rO (o : IO) : TO := fun σ H Q => ∃ G F env r env', Rel K G σ H F env ∧ runO Γ C o env = some (r, env') ∧ ∀ H' F', Rel K G σ H' F' env' → Ext K σ env H F H' F' env' → Q r H'
def rL (es : IL) : TA := fun σ H Q => ∃ G F env hs env', Rel K G σ H F env ∧ runL Γ C es env = some (hs, env') ∧ ∀ vs H' F', Rel K G σ H' F' env' → Ext K σ env H F H' F' env' → Paired (HV K σ F') vs hs → Q vs H'
def rV (es : IL) : TA := fun σ H Q => ∃ G F env hs env', Rel K G σ H F env ∧ runV Γ C es env = some (hs, env') ∧ ∀ vs H' F', Rel K G σ H' F' env' → Ext K σ env H F H' F' env' → Paired (HV K σ F') vs hs → Q vs H'
def rI (it : II) : TI := fun σ H R => ∃ G F env ds env', Rel K G σ H F env ∧ runI Γ C it env = some (ds, env') ∧ ∀ J H' F', Rel K G σ H' F' env' → Ext K σ env H F H' F' env' → WalkD K F' J ds → R J H'
def rG (g : IG) : TG := fun v σ H Q => ∃ G F env d env', Rel K G σ H F env ∧ Dq K F v d ∧ runG g d env = some env' ∧
  ∀ σ', Rel K G σ' H F env' → σ'.length = σ.length → (∀ i, i ∉ slotsG g → σ'[i]? = σ[i]?) → (∀ b, Own σ' env' b → Own σ env b) → Q σ' H
def rGs (gs : IGs) : TGs := fun vs σ H Q => ∃ G F env ds env', Rel K G σ H F env ∧ DqAll K F vs ds ∧ runGs gs ds env = some env' ∧
  ∀ σ', Rel K G σ' H F env' → σ'.length = σ.length → (∀ i, i ∉ slotsGs gs → σ'[i]? = σ[i]?) → (∀ b, Own σ' env' b → Own σ env b) → Q σ' H
end
section
variable {K : PySem.W.Frag} {G : Gh} {σ : L2.St} {H F H' F' : Hp} {env env' : En}
theorem obind {α β : Type} {o : Option α} {f : α → Option β} {y : β} (h : o.bind f = some y) : ∃ x, o = some x ∧ f x = some y := Option.bind_eq_some_iff.mp h
theorem RV.back {H1 : Hp} {v : V} {r : Sl} (q : RV K H1 H' F' v r) (l : ∀ b, H b ≠ none → H1 b ≠ none) : RV K H H' F' v r := by
  cases r with
  | v d => exact q
  | b ds => exact q
  | o ds =>
    obtain ⟨p, vs, e, h1, h2, h3, h4⟩ := q
    refine ⟨p, vs, e, ?_, h2, h3, h4⟩
    cases z : H p with
    | none => rfl
    | some o => exact absurd h1 (l p (by rw [z]; simp))
  | w ds =>
    obtain ⟨p, vs, e, h1, h2, h3, h4⟩ := q
    refine ⟨p, vs, e, ?_, h2, h3, h4⟩
    cases z : H p with
    | none => rfl
    | some o => exact absurd h1 (l p (by rw [z]; simp))
theorem made_of {H2 F2 : Hp} {env2 : En} {r : Sl} {Q : VK} (E : Ext K σ env H F H2 F2 env2) (R2 : Rel K G σ H2 F2 env2)
    (k : ∀ v H' F', Rel K G σ H' F' env2 → Ext K σ env H F H' F' env2 → RV K H H' F' v r → Q v H') : Made K H2 F2 r Q := fun v H' F' m1 m2 m3 nf fr q => by
  obtain ⟨R3, E3⟩ := R2.grow m1 m2 m3 nf fr
  exact k v H' F' R3 (E.trans E3) (q.back E.live)
theorem HV.mono {v : V} {h : Hd} (m : Same F F') (q : HV K σ F v h) : HV K σ F' v h := by
  cases h with
  | d z => exact dpMono m z q
  | s i => exact q
theorem HV.opd (R : Rel K G σ H F env) {v : V} {h : Hd} {d : PyData} (q : HV K σ F v h) (e : h.get env = some d) : Opd K F H v d := by
  cases h with
  | d z =>
    cases e
    exact .inl q
  | s i =>
    have e : (env.at i).bind Sl.lk = some d := e
    cases e2 : env.at i with
    | none =>
      rw [e2] at e
      cases e
    | some s =>
      rw [e2] at e
      have q' : σ[i]? = some (some v) := q
      cases s with
      | v d =>
        cases e
        obtain ⟨w, a, k⟩ := R.val i d e2
        rw [q'] at a
        cases a
        exact .inl k
      | o ds =>
        cases e
        obtain ⟨p, vs, a, f, hp, k, _⟩ := R.mu i _ ds e2 rfl
        rw [q'] at a
        cases a
        exact .inr (.inl ⟨p, vs, ds, rfl, rfl, hp, k⟩)
      | b ds =>
        cases e
        obtain ⟨p, vs, a, f, hp, k, _⟩ := R.mu i _ ds e2 rfl
        rw [q'] at a
        cases a
        exact .inr (.inl ⟨p, vs, ds, rfl, rfl, hp, k⟩)
      | w ds =>
        cases e
        obtain ⟨p, vs, a, f, hp, k, _⟩ := R.muD i _ ds e2 rfl
        rw [q'] at a
        cases a
        exact .inr (.inr ⟨p, vs, ds, rfl, rfl, hp, k⟩)
theorem paired_mono {α β : Type} {A B : α → β → Prop} (f : ∀ a b, A a b → B a b) : ∀ {l : List α} {m : List β}, Paired A l m → Paired B l m
  | _, _, .nil => .nil
  | _, _, .cons a t => .cons (f _ _ a) (paired_mono f t)
theorem opdAll_of (R : Rel K G σ H F env) : ∀ {vs : List V} {hs : List Hd} {ds : List PyData}, Paired (HV K σ F) vs hs → getL env hs = some ds → Paired (Opd K F H) vs ds
  | _, _, _, .nil, e => by
    cases e
    exact .nil
  | _, h :: hs, _, .cons q t, e => by
    unfold getL at e
    obtain ⟨d, e1, e⟩ := obind e
    obtain ⟨es, e2, e⟩ := obind e
    cases e
    exact .cons (q.opd R e1) (opdAll_of R t e2)
theorem dqAll_of : ∀ {vs : List V} {hs : List Hd} {ds : List PyData}, Paired (HV K σ F) vs hs → getD hs = some ds → DqAll K F vs ds
  | _, _, _, .nil, e => by
    cases e
    exact .nil
  | _, .d z :: hs, _, .cons q t, e => by
    unfold getD at e
    obtain ⟨es, e2, e⟩ := obind e
    cases e
    exact .cons q (dqAll_of t e2)
  | _, .s i :: hs, _, .cons q t, e => by cases e
theorem setv_own {i : Nat} {d : PyData} {v : V} (hl : env.length = σ.length) (h : env.put i (.v d) = some env') (b : Addr) (z : Own (σ.set i (some v)) env' b) : Own σ env b := by
  obtain ⟨rfl, _⟩ := put_inv h
  obtain ⟨j, s, ds, e, hm, g⟩ := z
  rw [at_set] at e
  by_cases hj : i = j ∧ i < env.length
  · rw [if_pos hj] at e
    cases e
    cases hm
  · rw [if_neg hj] at e
    refine ⟨j, s, ds, e, hm, ?_⟩
    rw [st_get, if_neg fun z => hj ⟨z, by rw [z]; exact at_lt e⟩] at g
    exact g
def ArgsP (K : PySem.W.Frag) (σ : L2.St) (H F : Hp) (env : En) (k : Bool) (vs : List V) (hs : List Hd) (as : List Sl) : Prop :=
    Paired (ArgR K F H) vs as ∧ (k = true → ∀ (i : Nat) (d : List PyData), as[i]? = some (.b d) → False) ∧ (∀ (i j : Nat) (d e : List PyData), as[i]? = some (.b d) → as[j]? = some (.b e) → i = j) ∧
    (∀ p, LentAt vs as p → ∃ i s ds, lentS hs = some i ∧ env.at i = some s ∧ s.m = some (.l ds) ∧ σ[i]? = some (some (.ref p))) ∧
    (∀ i, lentS hs = some i → ∃ p s ds, env.at i = some s ∧ s.m = some (.l ds) ∧ σ[i]? = some (some (.ref p)) ∧ LentAt vs as p)
/-- the callers' arguments -/
theorem args_of (R : Rel K G σ H F env) : ∀ {k : Bool} {vs : List V} {hs : List Hd} {as : List Sl}, Paired (HV K σ F) vs hs → getA env k hs = some as → ArgsP K σ H F env k vs hs as := by
  intro k vs hs
  induction hs generalizing k vs with
  | nil =>
    intro as h e
    cases h
    cases e
    exact ⟨.nil, fun _ i d z => by simp at z, fun i j d e z => by simp at z, fun p ⟨i, ds, z, _⟩ => by simp at z, fun i z => by cases z⟩
  | cons h hs ih =>
    intro as q e
    cases q with
    | @cons v _ vs _ q t =>
      cases h with
      | d z =>
        have e : (getA env k hs).bind (fun ds => some (Sl.v z :: ds)) = some as := by cases k <;> exact e
        obtain ⟨bs, e1, e⟩ := obind e
        cases e
        obtain ⟨i1, i2, i3, i4, i5⟩ := ih t e1
        refine ⟨.cons q i1, fun hk i d y => ?_, fun i j d e y1 y2 => ?_, fun p ⟨i, ds, y1, y2⟩ => ?_, fun i y => ?_⟩
        · cases i with
          | zero => cases y
          | succ i => exact i2 hk i d y
        · cases i with
          | zero => cases y1
          | succ i =>
            cases j with
            | zero => cases y2
            | succ j => exact congrArg (· + 1) (i3 i j d e y1 y2)
        · cases i with
          | zero => cases y1
          | succ i => exact i4 p ⟨i, ds, y1, y2⟩
        · obtain ⟨p, s, ds, a1, a2, a3, j, es, b1, b2⟩ := i5 i y
          exact ⟨p, s, ds, a1, a2, a3, j + 1, es, b1, b2⟩
      | s i0 =>
        cases k with
        | true => cases e
        | false =>
          have q' : σ[i0]? = some (some v) := q
          have main : ∀ (s : Sl) (ds : List PyData), env.at i0 = some s → s.m = some (.l ds) → (getA env true hs).bind (fun l => some (Sl.b ds :: l)) = some as → ArgsP K σ H F env false (v :: vs) (Hd.s i0 :: hs) as := fun s ds e0 hm e => by
            obtain ⟨bs, e1, e⟩ := obind e
            cases e
            obtain ⟨p, ws, a, f, hp, dq, _⟩ := R.mu i0 s ds e0 hm
            rw [q'] at a
            cases a
            obtain ⟨i1, i2, i3, i4, i5⟩ := ih t e1
            have P1 : Paired (ArgR K F H) (V.ref p :: vs) (Sl.b ds :: bs) := .cons ⟨p, ws, rfl, f, hp, dq⟩ i1
            have P2 : (false = true → ∀ (i : Nat) (d : List PyData), (Sl.b ds :: bs)[i]? = some (.b d) → False) := fun z => nomatch z
            have P3 : ∀ (i j : Nat) (d e : List PyData), (Sl.b ds :: bs)[i]? = some (.b d) → (Sl.b ds :: bs)[j]? = some (.b e) → i = j := fun i j d e y1 y2 => by
              cases i with
              | zero =>
                cases j with
                | zero => rfl
                | succ j => exact (i2 rfl j e y2).elim
              | succ i => exact (i2 rfl i d y1).elim
            have P4 : ∀ p', LentAt (V.ref p :: vs) (Sl.b ds :: bs) p' → ∃ i s ds, lentS (Hd.s i0 :: hs) = some i ∧ env.at i = some s ∧ s.m = some (.l ds) ∧ σ[i]? = some (some (.ref p')) := fun p' ⟨i, es, y1, y2⟩ => by
              cases i with
              | zero =>
                cases y2
                exact ⟨i0, s, ds, rfl, e0, hm, q'⟩
              | succ i => exact (i2 rfl i es y1).elim
            have P5 : ∀ i, lentS (Hd.s i0 :: hs) = some i → ∃ p' s ds', env.at i = some s ∧ s.m = some (.l ds') ∧ σ[i]? = some (some (.ref p')) ∧ LentAt (V.ref p :: vs) (Sl.b ds :: bs) p' := fun i y => by
              cases y
              exact ⟨p, s, ds, e0, hm, q', 0, ds, rfl, rfl⟩
            exact And.intro P1 (And.intro P2 (And.intro P3 (And.intro P4 P5)))
          unfold getA at e
          split at e
          · rename_i ds e0
            exact main _ ds e0 rfl e
          · rename_i ds e0
            exact main _ ds e0 rfl e
          · cases e
end
end PF

/-! PF7: the forms of expressions, one lemma each. -/
namespace PF
open PySem PySem.Spec PyProof.Rows L2
section
variable {X : Cx} {C : Cfg} {S : Sc} {Γ : Tab} {n : Nat}
theorem h_gen {a : IE} {z : Expr} (hne : ∀ (r : RE) (env : En), hd a r env = r.bind fun p => some (.d p.1.d, p.2)) (p : PE X z (rE X.K Γ C.cons a)) : PE X z (rH X.K Γ C.cons a) := by
  refine pe_mono p fun σ H Q ⟨G, F, env, h, env', R, e, k⟩ => ?_
  rw [hne] at e
  obtain ⟨r, e1, e⟩ := obind e
  cases e
  refine ⟨G, F, env, r.1, r.2, R, e1, fun v H' F' R' E' q => ?_⟩
  obtain ⟨F2, R2, E2, q2⟩ := R.settle R' E' q
  exact k v H' F2 R2 E2 q2
theorem nm_val {K : PySem.W.Frag} {G : Gh} {σ : L2.St} {H F : Hp} {env : En} (R : Rel K G σ H F env) {i : Nat} (h : (env.at i).isSome = true) : ∃ v, σ[i]? = some (some v) := by
  cases e : env.at i with
  | none =>
    rw [e] at h
    cases h
  | some s =>
    cases s with
    | v d =>
      obtain ⟨v, a, _⟩ := R.val i d e
      exact ⟨v, a⟩
    | o ds =>
      obtain ⟨p, _, a, _⟩ := R.mu i _ ds e rfl
      exact ⟨_, a⟩
    | b ds =>
      obtain ⟨p, _, a, _⟩ := R.mu i _ ds e rfl
      exact ⟨_, a⟩
    | w ds =>
      obtain ⟨p, _, a, _⟩ := R.muD i _ ds e rfl
      exact ⟨_, a⟩
theorem h_of (hC : COk X C Γ n) (hS : SOk X S) {a : IE} {z : Expr} (h : chkE C S a [z] none = true) (p : PE X z (rE X.K Γ C.cons a)) : PE X z (rH X.K Γ C.cons a) := by
  cases a with
  | x i =>
    cases z with
    | Name y pos =>
      refine pe_mono (pe_nm hC hS h) fun σ H Q ⟨G, F, env, h, env', R, e, k⟩ => ?_
      unfold hd at e
      simp only at e
      split at e
      · rename_i hs
        cases e
        obtain ⟨v, a⟩ := nm_val R hs
        exact ⟨v, a, k v H F R Ext.refl a⟩
      · cases e
    | _ => exact absurd h Bool.false_ne_true
  | _ => exact h_gen (fun _ _ => rfl) p
theorem f_k {d : PyData} {c : Const} {j : Nat} {p : Pos} (h : (match constD c with
      | some d' => eqFlat d d'
      | none => false) = true) : PE X (.Constant c j p) (rE X.K Γ C.cons (.k d)) := by
  cases c with
  | none =>
    cases d <;> first | exact absurd h Bool.false_ne_true | skip
    exact pe_mono pe_non fun σ H Q ⟨G, F, env, h, env', R, e, k⟩ => by
      cases e
      exact k _ H F R Ext.refl .non
  | bool b =>
    cases d <;> first | exact absurd h Bool.false_ne_true | skip
    rename_i b'
    cases (show b' = b from eq_of_beq h)
    exact pe_mono pe_bl fun σ H Q ⟨G, F, env, h, env', R, e, k⟩ => by
      cases e
      exact k _ H F R Ext.refl (.bl _)
  | int i =>
    cases d <;> first | exact absurd h Bool.false_ne_true | skip
    rename_i i'
    cases (show i' = i from of_decide_eq_true h)
    exact pe_mono pe_int fun σ H Q ⟨G, F, env, h, env', R, e, k⟩ => by
      cases e
      exact k _ H F R Ext.refl (.int _)
  | str x =>
    cases d <;> first | exact absurd h Bool.false_ne_true | skip
    rename_i x'
    cases (show x' = x from of_decide_eq_true h)
    exact pe_mono pe_str fun σ H Q ⟨G, F, env, h, env', R, e, k⟩ => by
      cases e
      exact k _ H F R Ext.refl (.str _)
  | float _ => exact absurd h Bool.false_ne_true
  | complex _ _ => exact absurd h Bool.false_ne_true
  | bytes _ => exact absurd h Bool.false_ne_true
  | ellipsis => exact absurd h Bool.false_ne_true
theorem f_x (hC : COk X C Γ n) (hS : SOk X S) {i : Nat} {y : Str} {p : Pos} (h : nmS C S i y = true) : PE X (.Name y p) (rE X.K Γ C.cons (.x i)) := by
  refine pe_mono (pe_nm hC hS h) fun σ H Q ⟨G, F, env, r, env', R, e, k⟩ => ?_
  have e : useI env i = some (r, env') := e
  unfold useI at e
  split at e
  · rename_i d e0
    cases e
    obtain ⟨v, a, q⟩ := R.val i d e0
    exact ⟨v, a, k v H F R Ext.refl q⟩
  · rename_i ds e0
    cases e
    obtain ⟨p, vs, a, R2, E2, q⟩ := R.useO e0
    exact ⟨_, a, k _ _ _ R2 E2 q⟩
  · rename_i ds e0
    cases e
    obtain ⟨p, vs, a, R2, E2, q⟩ := R.useM e0
    exact ⟨_, a, k _ _ _ R2 E2 q⟩
  · cases e
theorem f_g (hC : COk X C Γ n) (hS : SOk X S) {x : Str} {p : Pos} (hg : glS S x = true) (hn : okN x = true) : PE X (.Name x p) (rE X.K Γ C.cons (.g x)) := by
  cases e0 : C.cons.lookup x with
  | none =>
    refine ⟨fun pins s σ H Q I ⟨G, F, env, r, env', R, e, k⟩ => ?_⟩
    have e : (C.cons.lookup x).bind (fun d => some (Sl.v d, env)) = some (r, env') := e
    rw [e0] at e
    cases e
  | some d =>
    obtain ⟨u, v, hm, rv, q⟩ := hC.cons x d e0
    refine pe_mono (pe_glob (gl_of hS hg) hm rv (okN_1 hn)) fun σ H Q ⟨G, F, env, r, env', R, e, k⟩ => ?_
    have e : (C.cons.lookup x).bind (fun d => some (Sl.v d, env)) = some (r, env') := e
    rw [e0] at e
    cases e
    exact k v H F R Ext.refl (q F)
/-- two operands, then an operation -/
theorem two_ops {K : PySem.W.Frag} {cons : List (Str × PyData)} {a b : IE} {σ : L2.St} {H : Hp} {R : V → V → Hp → Prop} {G : Gh} {F : Hp} {env : En} {p q : Hd × En} (R0 : Rel K G σ H F env)
    (e1 : hd a (runE Γ cons a env) env = some p) (e2 : hd b (runE Γ cons b p.2) p.2 = some q)
    (k : ∀ v w H2 F2, Rel K G σ H2 F2 q.2 → Ext K σ env H F H2 F2 q.2 → HV K σ F2 v p.1 → HV K σ F2 w q.1 → R v w H2) :
    rH K Γ cons a σ H fun v H1 => rH K Γ cons b σ H1 fun w H2 => R v w H2 := by
  refine ⟨G, F, env, p.1, p.2, R0, e1, fun v H1 F1 R1 E1 q1 => ⟨G, F1, p.2, q.1, q.2, R1, e2, fun w H2 F2 R2 E2 q2 => ?_⟩⟩
  exact k v w H2 F2 R2 (E1.trans E2) (q1.mono E2.mono) q2
theorem f_bin (hC : COk X C Γ n) {op : Operator} {a b : IE} {x y : Expr} {pos : Pos} (ha : PE X x (rH X.K Γ C.cons a)) (hb : PE X y (rH X.K Γ C.cons b)) : PE X (.BinOp x op y pos) (rE X.K Γ C.cons (.bin op a b)) := by
  refine pe_mono (pe_op (op_bin op) ha hb) fun σ H Q ⟨G, F, env, r, env', R, e, k⟩ => ?_
  obtain ⟨p, e1, e⟩ := obind e
  obtain ⟨q, e2, e⟩ := obind e
  obtain ⟨x, e3, e⟩ := obind e
  obtain ⟨y, e4, e⟩ := obind e
  obtain ⟨z, e5, e⟩ := obind e
  cases e
  exact two_ops R e1 e2 fun v w H2 F2 R2 E2 q1 q2 => ⟨F2, _, _, _, R2.sub, q1.opd R2 e3, q2.opd R2 e4, e5, made_of E2 R2 k⟩
theorem f_neg {a : IE} {x : Expr} {pos : Pos} (ha : PE X x (rH X.K Γ C.cons a)) : PE X (.UnaryOp .USub x pos) (rE X.K Γ C.cons (.neg a)) := by
  refine pe_mono (pe_un un_neg ha) fun σ H Q ⟨G, F, env, r, env', R, e, k⟩ => ?_
  obtain ⟨p, e1, e⟩ := obind e
  obtain ⟨d, e2, e⟩ := obind e
  obtain ⟨z, e3, e⟩ := obind e
  cases e
  refine ⟨G, F, env, p.1, p.2, R, e1, fun v H1 F1 R1 E1 q1 => ?_⟩
  cases d <;> first | cases e3 | skip
  cases opd_int (q1.opd R1 e2)
  exact ⟨_, rfl, k _ _ _ R1 E1 (.int _)⟩
theorem f_not {a : IE} {x : Expr} {pos : Pos} (ha : PE X x (rH X.K Γ C.cons a)) : PE X (.UnaryOp .Not x pos) (rE X.K Γ C.cons (.not a)) := by
  refine pe_mono (pe_notT ha) fun σ H Q ⟨G, F, env, r, env', R, e, k⟩ => ?_
  obtain ⟨p, e1, e⟩ := obind e
  obtain ⟨d, e2, e⟩ := obind e
  obtain ⟨z, e3, e⟩ := obind e
  obtain ⟨t, e4, e3⟩ := obind e3
  cases e
  cases e3
  exact ⟨G, F, env, p.1, p.2, R, e1, fun v H1 F1 R1 E1 q1 => ⟨t, opd_tru R1.sub (q1.opd R1 e2) e4, k _ _ _ R1 E1 (.bl _)⟩⟩
theorem f_and {a b : IE} {x y : Expr} {r : List Expr} {pos : Pos} (ha : PE X x (rE X.K Γ C.cons a)) (hb : PE X (.BoolOp .And (y :: r) pos) (rE X.K Γ C.cons b)) : PE X (.BoolOp .And (x :: y :: r) pos) (rE X.K Γ C.cons (.and a b)) := by
  refine pe_mono (pe_andT ha hb) fun σ H Q ⟨G, F, env, r, env', R, e, k⟩ => ?_
  obtain ⟨p, e1, e⟩ := obind e
  obtain ⟨t, e2, e⟩ := obind e
  refine ⟨G, F, env, p.1, p.2, R, e1, fun v H1 F1 R1 E1 q1 => ?_⟩
  obtain ⟨F2, R2, E2, q2⟩ := R.settle R1 E1 q1
  refine ⟨t, opd_tru R2.sub (.inl q2) e2, ?_⟩
  cases t with
  | true => exact iteT ⟨G, F2, p.2, r, env', R2, e, fun w H3 F3 R3 E3 q3 => k w H3 F3 R3 (E2.trans E3) (q3.back E2.live)⟩
  | false =>
    cases e
    exact iteF (k v H1 F2 R2 E2 q2)
theorem f_or {a b : IE} {x y : Expr} {r : List Expr} {pos : Pos} (ha : PE X x (rE X.K Γ C.cons a)) (hb : PE X (.BoolOp .Or (y :: r) pos) (rE X.K Γ C.cons b)) : PE X (.BoolOp .Or (x :: y :: r) pos) (rE X.K Γ C.cons (.or a b)) := by
  refine pe_mono (pe_orT ha hb) fun σ H Q ⟨G, F, env, r, env', R, e, k⟩ => ?_
  obtain ⟨p, e1, e⟩ := obind e
  obtain ⟨t, e2, e⟩ := obind e
  refine ⟨G, F, env, p.1, p.2, R, e1, fun v H1 F1 R1 E1 q1 => ?_⟩
  obtain ⟨F2, R2, E2, q2⟩ := R.settle R1 E1 q1
  refine ⟨t, opd_tru R2.sub (.inl q2) e2, ?_⟩
  cases t with
  | false => exact iteF ⟨G, F2, p.2, r, env', R2, e, fun w H3 F3 R3 E3 q3 => k w H3 F3 R3 (E2.trans E3) (q3.back E2.live)⟩
  | true =>
    cases e
    exact iteT (k v H1 F2 R2 E2 q2)
theorem f_cmpR {a b : IE} {op : CmpOp} {σ : L2.St} {H : Hp} {Q : VK} (h : rE X.K Γ C.cons (.cmp op a b) σ H Q) : tOp (qCmp X.K op) (rH X.K Γ C.cons a) (rH X.K Γ C.cons b) σ H Q := by
  obtain ⟨G, F, env, r, env', R, e, k⟩ := h
  obtain ⟨p, e1, e⟩ := obind e
  obtain ⟨q, e2, e⟩ := obind e
  obtain ⟨x, e3, e⟩ := obind e
  obtain ⟨y, e4, e⟩ := obind e
  obtain ⟨z, e5, e⟩ := obind e
  cases e
  exact two_ops R e1 e2 fun v w H2 F2 R2 E2 q1 q2 => ⟨F2, x, y, z, R2.sub, q1.opd R2 e3, q2.opd R2 e4, e5, k _ _ _ R2 E2 (.bl _)⟩
theorem f_cmp (hC : COk X C Γ n) {op : CmpOp} {a b : IE} {x y : Expr} {pos : Pos} (ha : PE X x (rH X.K Γ C.cons a)) (hb : PE X y (rH X.K Γ C.cons b)) (py : plainA y = true) : PE X (.Compare x [op] [y] pos) (rE X.K Γ C.cons (.cmp op a b)) :=
  pe_mono (pe_cmpR (op_cmp hC.units op) ha hb (plain_marks py op)) fun _ _ _ h => f_cmpR h
theorem f_chR {a b c : IE} {op op' : CmpOp} {σ : L2.St} {H : Hp} {Q : VK} (h : rE X.K Γ C.cons (.ch op op' a b c) σ H Q) : tChain (qCmp X.K op) (qCmp X.K op') (rH X.K Γ C.cons a) (rH X.K Γ C.cons b) (rH X.K Γ C.cons c) σ H Q := by
  obtain ⟨G, F, env, r, env', R, e, k⟩ := h
  obtain ⟨p, e1, e⟩ := obind e
  obtain ⟨q, e2, e⟩ := obind e
  obtain ⟨x, e3, e⟩ := obind e
  obtain ⟨y, e4, e⟩ := obind e
  obtain ⟨z, e5, e⟩ := obind e
  refine two_ops R e1 e2 fun v w H2 F2 R2 E2 q1 q2 => ⟨F2, x, y, z, R2.sub, q1.opd R2 e3, q2.opd R2 e4, e5, z, rfl, ?_⟩
  cases z with
  | false =>
    cases e
    exact iteF (k _ _ _ R2 E2 (.bl _))
  | true =>
    obtain ⟨w3, e6, e⟩ := obind e
    obtain ⟨y', e7, e⟩ := obind e
    obtain ⟨z', e8, e⟩ := obind e
    obtain ⟨r', e9, e⟩ := obind e
    cases e
    refine iteT ⟨G, F2, q.2, w3.1, w3.2, R2, e6, fun u H3 F3 R3 E3 q3 => ⟨F3, y', z', r', R3.sub, (q2.mono E3.mono).opd R3 e7, q3.opd R3 e8, e9, k _ _ _ R3 (E2.trans E3) (.bl _)⟩⟩
theorem marks2 {y z : Expr} {op op' : CmpOp} (pz : plainA z = true) : lastMarks [op, op'] [y, z] = false := plain_marks pz op'
theorem f_ch (hC : COk X C Γ n) {op op' : CmpOp} {a b c : IE} {x y z : Expr} {pos : Pos} (ha : PE X x (rH X.K Γ C.cons a)) (hb : PE X y (rH X.K Γ C.cons b)) (hc : PE X z (rH X.K Γ C.cons c)) (pz : plainA z = true) :
    PE X (.Compare x [op, op'] [y, z] pos) (rE X.K Γ C.cons (.ch op op' a b c)) :=
  pe_mono (pe_chain (op_cmp hC.units op) (op_cmp hC.units op') ha hb hc (marks2 pz)) fun _ _ _ h => f_chR h
theorem f_ife {t : IT} {a b : IE} {z x y : Expr} {pos : Pos} (ht : PT X z (rT X.K Γ C.cons t)) (ha : PE X x (rE X.K Γ C.cons a)) (hb : PE X y (rE X.K Γ C.cons b)) : PE X (.IfExp z x y pos) (rE X.K Γ C.cons (.ife t a b)) := by
  refine pe_mono (pe_ifExp ht ha hb) fun σ H Q ⟨G, F, env, r, env', R, e, k⟩ => ?_
  obtain ⟨p, e1, e⟩ := obind e
  refine ⟨G, F, env, p.1, p.2, R, e1, fun H1 F1 R1 E1 => ?_⟩
  cases h : p.1 with
  | true =>
    rw [h] at e
    exact iteT ⟨G, F1, p.2, r, env', R1, e, fun w H3 F3 R3 E3 q3 => k w H3 F3 R3 (E1.trans E3) (q3.back E1.live)⟩
  | false =>
    rw [h] at e
    exact iteF ⟨G, F1, p.2, r, env', R1, e, fun w H3 F3 R3 E3 q3 => k w H3 F3 R3 (E1.trans E3) (q3.back E1.live)⟩
theorem f_ix {a b : IE} {x y : Expr} {pos : Pos} (ha : PE X x (rH X.K Γ C.cons a)) (hb : PE X y (rH X.K Γ C.cons b)) (py : plainA y = true) : PE X (.Subscript x y pos) (rE X.K Γ C.cons (.ix a b)) := by
  refine pe_mono (pe_ix ix_ok ha hb (plain_ix py)) fun σ H Q ⟨G, F, env, r, env', R, e, k⟩ => ?_
  obtain ⟨p, e1, e⟩ := obind e
  obtain ⟨q, e2, e⟩ := obind e
  obtain ⟨x, e3, e⟩ := obind e
  obtain ⟨y, e4, e⟩ := obind e
  obtain ⟨z, e5, e⟩ := obind e
  cases e
  exact two_ops R e1 e2 fun v w H2 F2 R2 E2 q1 q2 => ⟨F2, x, y, z, R2.sub, q1.opd R2 e3, q2.opd R2 e4, e5, fun u qu => k u _ _ R2 E2 qu⟩
theorem f_sl {a : IE} {lo hi : IO} {x : Expr} {u w : Option Expr} {p2 pos : Pos} (ha : PE X x (rH X.K Γ C.cons a)) (hl : PO X u (rO X.K Γ C.cons lo)) (hh : PO X w (rO X.K Γ C.cons hi)) : PE X (.Subscript x (.Slice u w none p2) pos) (rE X.K Γ C.cons (.sl a lo hi)) := by
  refine pe_mono (pe_slice sl_ok ha hl hh) fun σ H Q ⟨G, F, env, r, env', R, e, k⟩ => ?_
  obtain ⟨p, e1, e⟩ := obind e
  obtain ⟨q, e2, e⟩ := obind e
  obtain ⟨w, e3, e⟩ := obind e
  obtain ⟨x, e4, e⟩ := obind e
  obtain ⟨z, e5, e⟩ := obind e
  cases e
  refine ⟨G, F, env, p.1, p.2, R, e1, fun v H1 F1 R1 E1 q1 => ⟨G, F1, p.2, q.1, q.2, R1, e2, fun H2 F2 R2 E2 => ⟨G, F2, q.2, w.1, w.2, R2, e3, fun H3 F3 R3 E3 => ?_⟩⟩⟩
  exact ⟨F3, _, _, R3.sub, (q1.mono (E2.mono.trans E3.mono)).opd R3 e4, e5, made_of (E1.trans (E2.trans E3)) R3 k⟩
theorem f_rv {a : IE} {x : Expr} {j : Nat} {p1 p2 p3 pos : Pos} (ha : PE X x (rH X.K Γ C.cons a)) : PE X (.Subscript x (.Slice none none (some (.UnaryOp .USub (.Constant (.int 1) j p1) p2)) p3) pos) (rE X.K Γ C.cons (.rv a)) := by
  refine pe_mono (pe_revA ha) fun σ H Q ⟨G, F, env, r, env', R, e, k⟩ => ?_
  obtain ⟨p, e1, e⟩ := obind e
  obtain ⟨d, e2, e⟩ := obind e
  obtain ⟨z, e3, e⟩ := obind e
  cases e
  refine ⟨G, F, env, p.1, p.2, R, e1, fun v H1 F1 R1 E1 q1 => ?_⟩
  cases d with
  | list ds =>
    cases e3
    obtain ⟨a, vs, rfl, h1, q2⟩ := opd_list R1.sub (q1.opd R1 e2)
    exact ⟨a, vs, rfl, .inl ⟨h1.sql, fun p hp => (made_of E1 R1 k).o R1.sub (dpAll_rev q2) hp⟩⟩
  | tuple ds =>
    cases e3
    obtain ⟨a, vs, rfl, h1, q2⟩ := opd_tup R1.sub (q1.opd R1 e2)
    exact ⟨a, vs, rfl, .inr ⟨h1, fun p hp => (made_of E1 R1 k).t R1.sub (dpAll_rev q2) hp⟩⟩
  | _ => cases e3
/-! ### parts -/
theorem o_no : PO X none (rO X.K Γ C.cons .no) := po_mono po_none fun σ H Q ⟨G, F, env, r, env', R, e, k⟩ => by
  cases e
  exact k H F R Ext.refl
theorem o_so {a : IE} {z : Expr} (ha : PE X z (rH X.K Γ C.cons a)) : PO X (some z) (rO X.K Γ C.cons (.so a)) := po_mono (po_some ha) fun σ H Q ⟨G, F, env, r, env', R, e, k⟩ => by
  obtain ⟨p, e1, e⟩ := obind e
  obtain ⟨d, e2, e⟩ := obind e
  cases d <;> first | cases e | skip
  refine ⟨G, F, env, p.1, p.2, R, e1, fun v H1 F1 R1 E1 q1 => ?_⟩
  cases opd_int (q1.opd R1 e2)
  exact ⟨_, rfl, k H1 F1 R1 E1⟩
/-! ### lists of expressions -/
theorem l_nil : PA X [] (rL X.K Γ C.cons .nil) := pa_mono pa_nil fun σ H Q ⟨G, F, env, r, env', R, e, k⟩ => by
  cases e
  exact k [] H F R Ext.refl .nil
theorem l_cons {a : IE} {r : IL} {z : Expr} {zs : List Expr} (ha : PE X z (rH X.K Γ C.cons a)) (hr : PA X zs (rL X.K Γ C.cons r)) (pz : plainA z = true) : PA X (z :: zs) (rL X.K Γ C.cons (.cons a r)) :=
  pa_mono (pa_cons ha hr (plain_star pz _ _)) fun σ H Q ⟨G, F, env, hs, env', R, e, k⟩ => by
    obtain ⟨p, e1, e⟩ := obind e
    obtain ⟨q, e2, e⟩ := obind e
    cases e
    exact ⟨G, F, env, p.1, p.2, R, e1, fun v H1 F1 R1 E1 q1 => ⟨G, F1, p.2, q.1, q.2, R1, e2, fun vs H2 F2 R2 E2 q2 => k _ _ _ R2 (E1.trans E2) (.cons (q1.mono E2.mono) q2)⟩⟩
theorem v_nil : PA X [] (rV X.K Γ C.cons .nil) := pa_mono pa_nil fun σ H Q ⟨G, F, env, r, env', R, e, k⟩ => by
  cases e
  exact k [] H F R Ext.refl .nil
theorem v_cons {a : IE} {r : IL} {z : Expr} {zs : List Expr} (ha : PE X z (rE X.K Γ C.cons a)) (hr : PA X zs (rV X.K Γ C.cons r)) (pz : plainA z = true) : PA X (z :: zs) (rV X.K Γ C.cons (.cons a r)) :=
  pa_mono (pa_cons ha hr (plain_star pz _ _)) fun σ H Q ⟨G, F, env, hs, env', R, e, k⟩ => by
    obtain ⟨p, e1, e⟩ := obind e
    obtain ⟨q, e2, e⟩ := obind e
    cases e
    refine ⟨G, F, env, p.1, p.2, R, e1, fun v H1 F1 R1 E1 q1 => ?_⟩
    obtain ⟨F2, R2, E2, q2⟩ := R.settle R1 E1 q1
    exact ⟨G, F2, p.2, q.1, q.2, R2, e2, fun vs H3 F3 R3 E3 q3 => k _ _ _ R3 (E2.trans E3) (.cons (dpMono E3.mono _ q2) q3)⟩
theorem v_io (hC : COk X C Γ n) (hS : SOk X S) {i : Nat} {r : IL} {x : Str} {p : Pos} {zs : List Expr} (h : nmS C S i x = true) (hr : PA X zs (rV X.K Γ C.cons r)) : PA X (.Name x p :: zs) (rV X.K Γ C.cons (.io i r)) :=
  pa_mono (pa_cons (pe_nm hC hS h) hr (plain_star rfl _ _)) fun σ H Q ⟨G, F, env, hs, env', R, e, k⟩ => by
    have e : (if (env.at i).isSome = true then (runV Γ C.cons r env).bind (fun q => some (Hd.s i :: q.1, q.2)) else none) = some (hs, env') := e
    split at e
    · rename_i hi
      obtain ⟨q, e2, e⟩ := obind e
      cases e
      obtain ⟨v, a⟩ := nm_val R hi
      exact ⟨v, a, G, F, env, q.1, q.2, R, e2, fun vs H2 F2 R2 E2 q2 => k _ _ _ R2 E2 (.cons a q2)⟩
    · cases e
theorem dq_pairs {K : PySem.W.Frag} {σ : L2.St} {F : Hp} : ∀ {vs : List V} {ds : List PyData}, DqAll K F vs ds → Paired (HV K σ F) vs (ds.map Hd.d)
  | _, [], h => by
    cases h
    exact .nil
  | _, d :: ds, h => by
    cases h with
    | cons h1 h2 => exact .cons h1 (dq_pairs h2)
theorem paired_app {α β : Type} {A : α → β → Prop} : ∀ {l l' : List α} {m m' : List β}, Paired A l m → Paired A l' m' → Paired A (l ++ l') (m ++ m')
  | _, _, _, _, .nil, h => h
  | _, _, _, _, .cons a t, h => .cons a (paired_app t h)
theorem v_star {a : IE} {r : IL} {z : Expr} {p : Pos} {zs : List Expr} (ha : PE X z (rE X.K Γ C.cons a)) (hr : PA X zs (rV X.K Γ C.cons r)) : PA X (.Starred z p :: zs) (rV X.K Γ C.cons (.star a r)) :=
  pa_mono (StX.pa_star ha hr) fun σ H Q ⟨G, F, env, hs, env', R, e, k⟩ => by
    obtain ⟨q, e1, e⟩ := obind e
    refine ⟨G, F, env, q.1, q.2, R, e1, fun v H1 F1 R1 E1 q1 => ?_⟩
    obtain ⟨F2, R2, E2, q2⟩ := R.settle R1 E1 q1
    split at e
    · rename_i ds ed
      rw [ed] at q2
      obtain ⟨w, e2, e⟩ := obind e
      cases e
      cases q2 with
      | lst h1 h2 => exact ⟨_, _, rfl, .inr (rdlMono R2.sub h1).sql, G, F2, q.2, w.1, w.2, R2, e2, fun vs H3 F3 R3 E3 q3 => k _ _ _ R3 (E2.trans E3) (paired_app (dq_pairs (dpAllMono E3.mono _ h2)) q3)⟩
    · rename_i ds ed
      rw [ed] at q2
      obtain ⟨w, e2, e⟩ := obind e
      cases e
      cases q2 with
      | tup h1 h2 => exact ⟨_, _, rfl, .inl (sqtMono R2.sub h1), G, F2, q.2, w.1, w.2, R2, e2, fun vs H3 F3 R3 E3 q3 => k _ _ _ R3 (E2.trans E3) (paired_app (dq_pairs (dpAllMono E3.mono _ h2)) q3)⟩
    · cases e
theorem f_tup {es : IL} {xs : List Expr} {j : Nat} {pos : Pos} (h : PA X xs (rV X.K Γ C.cons es)) : PE X (.Tuple xs j pos) (rE X.K Γ C.cons (.tup es)) :=
  pe_mono (pe_tup h) fun σ H Q ⟨G, F, env, r, env', R, e, k⟩ => by
    obtain ⟨p, e1, e⟩ := obind e
    obtain ⟨ds, e2, e⟩ := obind e
    split at e
    · rename_i hz
      cases e
      refine ⟨G, F, env, p.1, p.2, R, e1, fun vs H1 F1 R1 E1 q1 => ?_⟩
      have q2 := dqAll_of q1 e2
      exact ⟨by rw [dpAll_len q2]; exact hz, fun a ha => (made_of E1 R1 k).t R1.sub q2 ha⟩
    · cases e
theorem f_lst {es : IL} {xs : List Expr} {pos : Pos} (h : PA X xs (rV X.K Γ C.cons es)) : PE X (.List xs pos) (rE X.K Γ C.cons (.lst es)) :=
  pe_mono (pe_lst h) fun σ H Q ⟨G, F, env, r, env', R, e, k⟩ => by
    obtain ⟨p, e1, e⟩ := obind e
    obtain ⟨ds, e2, e⟩ := obind e
    split at e
    · rename_i hz
      cases e
      refine ⟨G, F, env, p.1, p.2, R, e1, fun vs H1 F1 R1 E1 q1 => ?_⟩
      have q2 := dqAll_of q1 e2
      exact ⟨by rw [dpAll_len q2]; exact hz, fun a ha => (made_of E1 R1 k).o R1.sub q2 ha⟩
    · cases e
theorem fnR {f : BF} {es : IL} {σ : L2.St} {H : Hp} {Q : VK} (h : rE X.K Γ C.cons (.fn f es) σ H Q) : tCB (qFn X.K f) (rL X.K Γ C.cons es) σ H Q := by
  obtain ⟨G, F, env, r, env', R, e, k⟩ := h
  obtain ⟨p, e1, e⟩ := obind e
  obtain ⟨ds, e2, e⟩ := obind e
  obtain ⟨z, e3, e⟩ := obind e
  cases e
  exact ⟨G, F, env, p.1, p.2, R, e1, fun vs H1 F1 R1 E1 q1 => ⟨F1, _, _, R1.sub, opdAll_of R1 q1 e2, e3, made_of E1 R1 k⟩⟩
theorem f_fn (hC : COk X C Γ n) (hS : SOk X S) {f : BF} {es : IL} {z : Expr} {zs : List Expr} {x : Str} {p pos : Pos} (hx : x = f.nm) (hg : glS S x = true) (h : PA X (z :: zs) (rL X.K Γ C.cons es)) (hp : (z :: zs).all plainA = true) :
    PE X (.Call (.Name x p) (z :: zs) [] pos) (rE X.K Γ C.cons (.fn f es)) := by
  subst hx
  have hg' := gl_of hS hg
  rw [List.all_cons, Bool.and_eq_true] at hp
  have st := plain_star hp.1 zs X.env
  have an := plain_any hp.2 pos X.env
  have hf := fn_ok hC.calm hC.guards hC.units f
  cases f with
  | len => exact pe_mono (pe_callB hf hg' (blt_of hC (by decide +kernel)) (by decide +kernel) h (by decide +kernel) (by decide +kernel) st an) fun _ _ _ => fnR
  | abs => exact pe_mono (pe_callB hf hg' (blt_of hC (by decide +kernel)) (by decide +kernel) h (by decide +kernel) (by decide +kernel) st an) fun _ _ _ => fnR
  | max2 => exact pe_mono (pe_callB hf hg' (blt_of hC (by decide +kernel)) (by decide +kernel) h (by decide +kernel) (by decide +kernel) st an) fun _ _ _ => fnR
  | min2 => exact pe_mono (pe_callB hf hg' (blt_of hC (by decide +kernel)) (by decide +kernel) h (by decide +kernel) (by decide +kernel) st an) fun _ _ _ => fnR
  | max1 => exact pe_mono (pe_callB hf hg' (blt_of hC (by decide +kernel)) (by decide +kernel) h (by decide +kernel) (by decide +kernel) st an) fun _ _ _ => fnR
  | min1 => exact pe_mono (pe_callB hf hg' (blt_of hC (by decide +kernel)) (by decide +kernel) h (by decide +kernel) (by decide +kernel) st an) fun _ _ _ => fnR
  | sum => exact pe_mono (pe_callB hf hg' (blt_of hC (by decide +kernel)) (by decide +kernel) h (by decide +kernel) (by decide +kernel) st an) fun _ _ _ => fnR
  | divmod => exact pe_mono (pe_callB hf hg' (blt_of hC (by decide +kernel)) (by decide +kernel) h (by decide +kernel) (by decide +kernel) st an) fun _ _ _ => fnR
  | all => exact pe_mono (pe_callB hf hg' (blt_of hC (by decide +kernel)) (by decide +kernel) h (by decide +kernel) (by decide +kernel) st an) fun _ _ _ => fnR
  | any => exact pe_mono (pe_callB hf hg' (blt_of hC (by decide +kernel)) (by decide +kernel) h (by decide +kernel) (by decide +kernel) st an) fun _ _ _ => fnR
  | repr => exact pe_mono (pe_callB hf hg' (blt_of hC (by decide +kernel)) (by decide +kernel) h (by decide +kernel) (by decide +kernel) st an) fun _ _ _ => fnR
  | sorted => exact pe_mono (pe_callB hf hg' (blt_of hC (by decide +kernel)) (by decide +kernel) h (by decide +kernel) (by decide +kernel) st an) fun _ _ _ => fnR
  | int => exact pe_mono (pe_callTy hf hg' (blt_of hC (by decide +kernel)) (by decide +kernel) h (by decide +kernel) (by decide +kernel) st an) fun _ _ _ => fnR
  | tuple => exact pe_mono (pe_callTy hf hg' (blt_of hC (by decide +kernel)) (by decide +kernel) h (by decide +kernel) (by decide +kernel) st an) fun _ _ _ => fnR
  | list => exact pe_mono (pe_callTy hf hg' (blt_of hC (by decide +kernel)) (by decide +kernel) h (by decide +kernel) (by decide +kernel) st an) fun _ _ _ => fnR
  | str => exact pe_mono (pe_callTy hf hg' (blt_of hC (by decide +kernel)) (by decide +kernel) h (by decide +kernel) (by decide +kernel) st an) fun _ _ _ => fnR
  | dict => exact pe_mono (pe_callTy hf hg' (blt_of hC (by decide +kernel)) (by decide +kernel) h (by decide +kernel) (by decide +kernel) st an) fun _ _ _ => fnR
end
end PF

/-! PF8: isinstance, calls, methods, targets, what is walked, comprehensions, tests. -/
namespace PF
open PySem PySem.Spec PyProof.Rows L2
section
variable {X : Cx} {C : Cfg} {S : Sc} {Γ : Tab} {n : Nat}
/-! ### isinstance -/
theorem ty_of {K : PySem.W.Frag} {F H : Hp} {x : V} {d : PyData} (s : Same F H) (h : Opd K F H x d) (hq : isF d = false) : TyX K H x (.type (tyD d)) := by
  cases d with
  | none =>
    cases opd_none h
    exact .base .non
  | bool b =>
    cases opd_bool h
    exact .base (.bl _)
  | int i =>
    cases opd_int h
    exact .base (.int _)
  | str z =>
    cases opd_str h
    exact .base (.str _)
  | list ds =>
    obtain ⟨p, vs, rfl, h1, _⟩ := opd_list s h
    rcases h1 with (h1 | ⟨o, h1⟩) | ⟨its, m, h1, _⟩
    · exact .base (.lst h1)
    · exact .base (.frz h1)
    · exact .kList h1 rfl
  | tuple ds =>
    obtain ⟨p, vs, rfl, h1, _⟩ := opd_tup s h
    rcases h1 with (h1 | ⟨o, h1⟩) | ⟨o, its, m, h1, h2, _⟩
    · exact .base (.tup h1)
    · exact .fTuple h1
    · exact .kTuple h1 h2
  | dict kvs =>
    obtain ⟨p, vs, rfl, h1, _⟩ := opd_dict s h hq
    rcases h1 with h1 | ⟨o, h1⟩
    · exact .base (.dK h1)
    · exact .fDict h1
def tyNames : List String := ["int", "bool", "str", "list", "tuple", "dict"]
theorem kit_isi (d : PyData) {t : String} (ht : tyNames.contains t = true) : kitB (tyD d) t = some (isiD d t) := by
  have h : t = "int" ∨ t = "bool" ∨ t = "str" ∨ t = "list" ∨ t = "tuple" ∨ t = "dict" := by
    simp [tyNames] at ht
    exact ht
  rcases h with rfl | rfl | rfl | rfl | rfl | rfl <;> cases d <;> rfl
theorem boot_ty {t : String} (ht : tyNames.contains t = true) : bootBuiltins (Str.ofString t) = some (.type t) ∧ blts.contains (Str.ofString t) = true ∧ Str.ofString t ≠ "__name__" ∧ (Str.ofString t == ("__debug__" : Str)) = false := by
  have h : t = "int" ∨ t = "bool" ∨ t = "str" ∨ t = "list" ∨ t = "tuple" ∨ t = "dict" := by
    simp [tyNames] at ht
    exact ht
  rcases h with rfl | rfl | rfl | rfl | rfl | rfl <;> exact ⟨by decide +kernel, by decide +kernel, by decide +kernel, by decide +kernel⟩
theorem f_isi (hC : COk X C Γ n) (hS : SOk X S) {a : IE} {t : String} {x y : Str} {z : Expr} {p p2 pos : Pos} (hx : x = "isinstance") (hg : glS S x = true) (ha : PE X z (rH X.K Γ C.cons a)) (pz : plainA z = true) (hy : y = Str.ofString t) (hg2 : glS S y = true) (ht : tyNames.contains t = true) :
    PE X (.Call (.Name x p) [z, .Name y p2] [] pos) (rE X.K Γ C.cons (.isi a t)) := by
  subst hx hy
  obtain ⟨b1, b2, b3, b4⟩ := boot_ty ht
  have pt : PE X (.Name (Str.ofString t) p2) (tC (.ty t)) := pe_bltn (gl_of hS hg2) (blt_of hC b2) b1 rfl b3 b4
  refine pe_mono (pe_callB call_isi (gl_of hS hg) (blt_of hC (by decide +kernel)) (by decide +kernel) (pa_cons ha (pa_cons pt pa_nil (by rfl)) (plain_star pz _ _)) (by decide +kernel) (by decide +kernel) (plain_star pz _ _) rfl) fun σ H Q ⟨G, F, env, r, env', R, e, k⟩ => ?_
  obtain ⟨q, e1, e⟩ := obind e
  obtain ⟨d, e2, e⟩ := obind e
  obtain ⟨w, e3, e⟩ := obind e
  cases e
  simp only at e3
  split at e3
  · cases e3
  rename_i hq
  cases e3
  exact ⟨G, F, env, q.1, q.2, R, e1, fun v H1 F1 R1 E1 q1 => ⟨v, .ty t, _, _, _, rfl, .ty t, ty_of R1.sub (q1.opd R1 e2) (by simpa using hq), kit_ty (kit_isi d ht), k _ _ _ R1 E1 (.bl _)⟩⟩
/-! ### the call of a def -/
theorem callR {f : Nat} {es : IL} {σ : L2.St} {H : Hp} {Q : VK} (h : rE X.K Γ C.cons (.call f es) σ H Q) : tCG X.K (Γ f) (rV X.K Γ C.cons es) σ H Q := by
  obtain ⟨G, F, env, r, env', R, e, k⟩ := h
  obtain ⟨p, e1, e⟩ := obind e
  obtain ⟨as, e2, e⟩ := obind e
  obtain ⟨z, e3, e⟩ := obind e
  cases e
  refine ⟨G, F, env, p.1, p.2, R, e1, fun vs H1 F1 R1 E1 q1 => ?_⟩
  obtain ⟨i1, _, i3, i4, i5⟩ := args_of R1 q1 e2
  refine ⟨F1, as, z.1, z.2, R1.sub, R1.entF, i1, i3, e3, fun v H2 F2 P => ?_⟩
  have go : Rel X.K G σ H2 F2 (putA p.2 p.1 z.2) ∧ Ext X.K σ p.2 H1 F1 H2 F2 (putA p.2 p.1 z.2) := by
    cases hl : lentS p.1 with
    | none =>
      have e0 : putA p.2 p.1 z.2 = p.2 := by
        unfold putA
        rw [hl]
      rw [e0]
      exact R1.growT P.mono P.sub (fun b o h nt => P.keep b o h nt fun y => by
        obtain ⟨i, _, _, a, _⟩ := i4 b y
        rw [hl] at a
        cases a) P.live P.fresh P.tabs
    | some i =>
      obtain ⟨a, s, ds, a1, a2, a3, a4⟩ := i5 i hl
      obtain ⟨fa, ws, ha, qa⟩ := P.lent a a4
      have kp : ∀ b o, H1 b = some o → NT o → b ≠ a → H2 b = some o := fun b o h nt nb => P.keep b o h nt fun y => by
        obtain ⟨j, _, _, b1, _, _, b4⟩ := i4 b y
        rw [hl] at b1
        cases b1
        rw [a3] at b4
        cases b4
        exact nb rfl
      cases s with
      | v d => cases a2
      | w d => cases a2
      | o es =>
        have e0 : putA p.2 p.1 z.2 = p.2.set i (some (.o z.2)) := by
          unfold putA
          rw [hl]
          simp only [a1]
        rw [e0]
        exact R1.lent a1 a2 a3 P.mono P.sub kp P.live P.tabs P.fresh fa ha qa rfl rfl
      | b es =>
        have e0 : putA p.2 p.1 z.2 = p.2.set i (some (.b z.2)) := by
          unfold putA
          rw [hl]
          simp only [a1]
        rw [e0]
        exact R1.lent a1 a2 a3 P.mono P.sub kp P.live P.tabs P.fresh fa ha qa rfl rfl
  exact k v H2 F2 go.1 (E1.trans go.2) (P.res.back E1.live)
theorem f_call (hC : COk X C Γ n) (hS : SOk X S) {f : Nat} {es : IL} {x : Str} {zs : List Expr} {p pos : Pos} (hf : C.fns[f]? = some x) (hg : glS S x = true) (hx : okN x = true) (h : PA X zs (rV X.K Γ C.cons es)) (hp : zs.all plainA = true)
    (h0 : zs = [] → es = .nil) : PE X (.Call (.Name x p) zs [] pos) (rE X.K Γ C.cons (.call f es)) := by
  obtain ⟨a, hm, F⟩ := hC.fns f x hf
  cases zs with
  | nil =>
    cases h0 rfl
    refine pe_mono (pe_callG0 hC F (gl_of hS hg) hm hx) fun σ H Q h => ?_
    obtain ⟨G, F, env, hs, env', R, e1, k⟩ := callR h
    cases e1
    exact k [] H F R Ext.refl .nil
  | cons z zs => exact pe_mono (pe_callG hC F (gl_of hS hg) hm hx h hp) fun σ H Q h => callR h
/-- a call of the def that a name holds -/
theorem fnAt_of {K : PySem.W.Frag} {G : Gh} {σ : L2.St} {H F : Hp} {env : En} (R : Rel K G σ H F env) {i : Nat} {x : Str} (h : fnAt env i x = true) : ∃ a, σ[i]? = some (some (.ref a)) ∧ PySem.W.nsIn K mainGlobals x = some (some (.ref a)) := by
  unfold fnAt at h
  split at h
  · rename_i y e
    obtain rfl := of_decide_eq_true h
    obtain ⟨v, a, q⟩ := R.val i _ e
    cases q with
    | fnc h1 => exact ⟨_, a, h1⟩
    | dct h1 h2 =>
      cases h2 with
      | cons h3 _ _ => cases h3
  · cases h
theorem f_act (hC : COk X C Γ n) (hS : SOk X S) {i f : Nat} {es : IL} {x y : Str} {z : Expr} {zs : List Expr} {p pos : Pos} (hi : nmS C S i y = true) (hf : C.fns[f]? = some x) (h : PA X (z :: zs) (rV X.K Γ C.cons es)) (hp : (z :: zs).all plainA = true) :
    PE X (.Call (.Name y p) (z :: zs) [] pos) (rE X.K Γ C.cons (.act i f x es)) := by
  obtain ⟨a, hm, FP⟩ := hC.fns f x hf
  refine ⟨fun pins s σ H Q I hq => ?_⟩
  obtain ⟨G, F, env, r, env', R, e, k⟩ := hq
  have e : (if fnAt env i x = true then (runV Γ C.cons es env).bind fun p => (getA p.2 false p.1).bind fun as => (Γ f as).bind fun r => some (r.1, putA p.2 p.1 r.2) else none) = some (r, env') := e
  by_cases hfn : fnAt env i x = true
  case neg =>
    rw [if_neg hfn] at e
    cases e
  rw [if_pos hfn] at e
  have hc : tCG X.K (Γ f) (rV X.K Γ C.cons es) σ H Q := callR ⟨G, F, env, r, env', R, e, k⟩
  obtain ⟨b, hb, hn⟩ := fnAt_of R hfn
  have hb2 : b = a := by
    have := PySem.W.mg_of I.ok.mod.kin I.ok.mod.glob hn
    rw [hm] at this
    cases this
    rfl
  subst hb2
  refine wpAny_Call_Name_kw (thn ((pe_nm hC hS (p := p) hi).run pins s σ H (fun v H1 => v = .ref b ∧ H1 = H) I ⟨_, hb, rfl, rfl⟩) fun u s1 ⟨v, H1, I1, r1, q1⟩ => ?_)
  obtain ⟨ev, eH⟩ := q1
  subst ev
  rw [eH] at I1
  obtain rfl : u = Value.ref b := r1
  rw [List.all_cons, Bool.and_eq_true] at hp
  refine PySem.W.callWith_K (h₀ := X.base) I.ok.mod.kin FP.kp (thn (h.run pos pins s1 σ H _ I1 hc) fun us s2 ⟨vs, H2, I2, r2, q⟩ => ⟨I2.kIn, ?_⟩) (plain_star hp.1 _ _) (plain_any hp.2 _ _)
  exact run_fnG FP hC.room hC.guards I2 r2 q
/-! ### a method that changes a name's list -/
def qMt (K : PySem.W.Frag) (m : MT) : V → List V → Hp → VK → Prop := fun x ws H Q => ∃ F p vs xs ds d ys, Same F H ∧ x = .ref p ∧ H p = some (.lst vs) ∧ DqAll K F vs xs ∧ DqAll K F ws ds ∧ mtD m xs ds = some (d, ys) ∧ ∀ w vs', Dq K F w d → DqAll K F vs' ys → Q w (upd H p (.lst vs'))
theorem mt_rule (m : MT) : MtR X m.id (qMt X.K m) := by
  intro pins s σ H x xs v us Q I rx r h
  obtain ⟨F, p, vs, ys, ds, d, zs, sm, rfl, hp, q1, q2, e, k⟩ := h
  exact mt_ok rfl I rx r hp q1 q2 e sm k
theorem mutAt_of {env : En} {i : Nat} (h : mutAt env i = true) : ∃ s ds, env.at i = some s ∧ s.m = some (.l ds) := by
  unfold mutAt at h
  split at h
  · exact ⟨_, _, by assumption, rfl⟩
  · exact ⟨_, _, by assumption, rfl⟩
  · cases h
theorem mtTail {m : MT} {i : Nat} {es : IL} {σ : L2.St} {H : Hp} {Q : VK} (h : rE X.K Γ C.cons (.mt m i es) σ H Q) :
    ∃ p, σ[i]? = some (some (.ref p)) ∧ (∃ vs, H p = some (.lst vs)) ∧ rV X.K Γ C.cons es σ H fun ws H1 => qMt X.K m (.ref p) ws H1 Q := by
  obtain ⟨G, F, env, r, env', R, e, k⟩ := h
  have e : (if mutAt env i = true then (runV Γ C.cons es env).bind fun p => (getD p.1).bind fun ds => match p.2.at i with
      | some (.o xs) => (mtD m xs ds).bind fun r => some (Sl.v r.1, p.2.set i (some (.o r.2)))
      | some (.b xs) => (mtD m xs ds).bind fun r => some (Sl.v r.1, p.2.set i (some (.b r.2)))
      | _ => none
    else none) = some (r, env') := e
  split at e
  · rename_i hm
    obtain ⟨s0, ds0, a0, b0⟩ := mutAt_of hm
    obtain ⟨p, vs, a, f, hp, q, _⟩ := R.mu i s0 ds0 a0 b0
    refine ⟨p, a, ⟨vs, hp⟩, ?_⟩
    obtain ⟨q, e1, e⟩ := obind e
    obtain ⟨ds, e2, e⟩ := obind e
    refine ⟨G, F, env, q.1, q.2, R, e1, fun ws H1 F1 R1 E1 q1 => ?_⟩
    have q2 := dqAll_of q1 e2
    have key : ∀ (s s' : Sl) (xs ys : List PyData) (d : PyData), q.2.at i = some s → s.m = some (.l xs) → mtD m xs ds = some (d, ys) → s'.m = some (.l ys) → isB s' = isB s → r = .v d → env' = q.2.set i (some s') → qMt X.K m (.ref p) ws H1 Q := fun s s' xs ys d a1 a2 a3 a4 a5 a6 a7 => by
      subst a6 a7
      obtain ⟨p2, vs2, b1, b2, b3, b4, _⟩ := R1.mu i s xs a1 a2
      rw [a] at b1
      cases b1
      refine ⟨F1, p, vs2, xs, ds, d, ys, R1.sub, rfl, b3, b4, q2, a3, fun w vs' qw qv => ?_⟩
      obtain ⟨R2, E2⟩ := R1.change (s' := s') a1 a2 a b3 a4 a5 qv
      exact k w _ F1 R2 (E1.trans E2) qw
    split at e
    · rename_i xs ea
      obtain ⟨z, e3, e⟩ := obind e
      cases e
      exact key _ (.o z.2) xs z.2 z.1 ea rfl e3 rfl rfl rfl rfl
    · rename_i xs ea
      obtain ⟨z, e3, e⟩ := obind e
      cases e
      exact key _ (.b z.2) xs z.2 z.1 ea rfl e3 rfl rfl rfl rfl
    · cases e
  · cases e
theorem f_mt (hC : COk X C Γ n) (hS : SOk X S) {m : MT} {i : Nat} {es : IL} {x a : Str} {zs : List Expr} {p ap cp : Pos} (hx : nmS C S i x = true) (ha : a = m.nm) (hl : (ap.endLine == cp.line) = true) (h : PA X zs (rV X.K Γ C.cons es)) (hp : zs.all plainA = true) (hz : zs.length ≤ 2)
    (h0 : zs = [] → es = .nil) : PE X (.Call (.Attribute (.Name x p) a ap) zs [] cp) (rE X.K Γ C.cons (.mt m i es)) := by
  subst ha
  have pn := pe_nm (p := p) hC hS hx
  cases zs with
  | nil =>
    cases h0 rfl
    cases m with
    | pop =>
      refine pe_mono (pe_bm0 PySem.F.plainAttrs_list PySem.F.slot_list_pop PySem.F.type_list_pop (mt_rule .pop) pn rfl hl) fun σ H Q h => ?_
      obtain ⟨p, a, ⟨vs, hv⟩, G, F, env, hs, env', R, e1, k⟩ := mtTail h
      cases e1
      exact ⟨_, a, .inl ⟨rfl, vs, .inl (.inl hv)⟩, k [] H F R Ext.refl .nil⟩
    | append =>
      exact ⟨fun pins s σ H Q I h => by
        obtain ⟨p, a, ⟨vs, hv⟩, G, F, env, hs, env', R, e1, k⟩ := mtTail h
        cases e1
        obtain ⟨_, _, _, _, _, _, _, _, _, _, _, q, e, _⟩ := k [] H F R Ext.refl .nil
        cases q
        cases e⟩
    | insert =>
      exact ⟨fun pins s σ H Q I h => by
        obtain ⟨p, a, ⟨vs, hv⟩, G, F, env, hs, env', R, e1, k⟩ := mtTail h
        cases e1
        obtain ⟨_, _, _, _, _, _, _, _, _, _, _, q, e, _⟩ := k [] H F R Ext.refl .nil
        cases q
        cases e⟩
    | extend =>
      exact ⟨fun pins s σ H Q I h => by
        obtain ⟨p, a, ⟨vs, hv⟩, G, F, env, hs, env', R, e1, k⟩ := mtTail h
        cases e1
        obtain ⟨_, _, _, _, _, _, _, _, _, _, _, q, e, _⟩ := k [] H F R Ext.refl .nil
        cases q
        cases e⟩
  | cons z zs =>
    have all := plain_all hp cp X.env
    rw [List.all_cons, Bool.and_eq_true] at hp
    have st := plain_star hp.1 zs X.env
    have an := plain_any hp.2 cp X.env
    have few : ((backTo cp (starEach (z :: zs) X.env)).all (fun x => !x.1) && (backToKw cp (keywordEach [] X.env)).all (fun x => x.1.isSome)
      && decide ((z :: zs).length + ([] : List Keyword).length + (if ([] : List Keyword).isEmpty then 0 else 1) < 30)) = true := by
      rw [all]
      show decide ((z :: zs).length + 0 + 0 < 30) = true
      exact decide_eq_true (by omega)
    have fin : ∀ σ H Q, rE X.K Γ C.cons (.mt m i es) σ H Q → tBM X.K "list" (qMt X.K m) (tVar i) (rV X.K Γ C.cons es) σ H Q := fun σ H Q h => by
      obtain ⟨p, a, ⟨vs, hv⟩, k⟩ := mtTail h
      exact ⟨_, a, .inl ⟨rfl, vs, .inl (.inl hv)⟩, k⟩
    cases m with
    | append => exact pe_mono (pe_bm PySem.F.plainAttrs_list PySem.F.slot_list_append PySem.F.type_list_append (mt_rule .append) pn h rfl few hl st an) fin
    | pop => exact pe_mono (pe_bm PySem.F.plainAttrs_list PySem.F.slot_list_pop PySem.F.type_list_pop (mt_rule .pop) pn h rfl few hl st an) fin
    | insert => exact pe_mono (pe_bm PySem.F.plainAttrs_list PySem.F.slot_list_insert PySem.F.type_list_insert (mt_rule .insert) pn h rfl few hl st an) fin
    | extend => exact pe_mono (pe_bm PySem.F.plainAttrs_list PySem.F.slot_list_extend PySem.F.type_list_extend (mt_rule .extend) pn h rfl few hl st an) fin
/-! ### targets -/
def lenGs : IGs → Nat
  | .nil => 0
  | .cons _ r => lenGs r + 1
theorem gs_len : ∀ (gs : IGs) (es : List Expr), chkGs C S gs es = true → ∀ env, (assignEach es env).length = lenGs gs ∧ (assignEach es env).findIdx? (·.1) = none
  | .nil, es, h, env => by
    cases es with
    | nil => exact ⟨rfl, rfl⟩
    | cons _ _ => exact absurd h Bool.false_ne_true
  | .cons g r, es, h, env => by
    cases es with
    | nil => exact absurd h Bool.false_ne_true
    | cons z zs =>
      have h : (chkG C S g z && notStar z && chkGs C S r zs) = true := h
      rw [Bool.and_eq_true, Bool.and_eq_true] at h
      obtain ⟨h1, h2⟩ := gs_len r zs h.2 env
      have e : assignEach (z :: zs) env = (false, assign z env) :: assignEach zs env := by
        cases z <;> first | exact absurd h.1.2 Bool.false_ne_true | rfl
      rw [e]
      refine ⟨congrArg (· + 1) h1, ?_⟩
      rw [List.findIdx?_cons, h2]
      rfl
theorem runGs_len : ∀ (gs : IGs) (ds : List PyData) (env env' : En), runGs gs ds env = some env' → ds.length = lenGs gs
  | .nil, [], _, _, _ => rfl
  | .nil, _ :: _, _, _, h => by cases h
  | .cons g r, [], _, _, h => by cases h
  | .cons g r, d :: ds, env, env', h => by
    obtain ⟨e1, _, h2⟩ := obind h
    exact congrArg (· + 1) (runGs_len r ds e1 env' h2)
mutual
theorem sG (hC : COk X C Γ n) (hS : SOk X S) : ∀ (g : IG) (z : Expr), chkG C S g z = true → PG X z (rG X.K g)
  | .n i, z, h => by
    cases z with
    | Name x p =>
      have h : tgS C S i x = true := h
      unfold tgS at h
      rw [Bool.and_eq_true] at h
      obtain ⟨h1, h2⟩ := loc_of hS h.2
      refine pg_mono (pg_name hC.nd (by rw [hC.N]; exact of_decide_eq_true h.1) h1 h2) fun v σ H Q ⟨G, F, env, d, env', R, q, e, k⟩ => ?_
      exact k _ (R.setv e q) (List.length_set ..) (fun j hj => by
        rw [st_get, if_neg]
        intro z
        exact hj (by rw [← z]; exact List.mem_cons_self)) fun b z => setv_own R.len e b z
    | _ => exact absurd h Bool.false_ne_true
  | .t gs, z, h => by
    cases z with
    | Tuple es j p =>
      have h : chkGs C S gs es = true := h
      have hp := gs_len gs es h X.env
      refine pg_mono (pg_tup hC.calm (sGs hC hS gs es h) hp.1 hp.2) fun v σ H Q ⟨G, F, env, d, env', R, q, e, k⟩ => ?_
      cases d <;> first | cases e | skip
      cases q with
      | tup h1 h2 =>
        refine ⟨_, _, rfl, sqtMono R.sub h1, ?_, G, F, env, _, env', R, h2, e, fun σ' R' l1 l2 l3 => k σ' R' l1 l2 l3⟩
        rw [dpAll_len h2, runGs_len gs _ _ _ e]
    | _ => exact absurd h Bool.false_ne_true
theorem sGs (hC : COk X C Γ n) (hS : SOk X S) : ∀ (gs : IGs) (es : List Expr), chkGs C S gs es = true → PGs X es (rGs X.K gs)
  | .nil, es, h => by
    cases es with
    | nil =>
      refine pgs_mono pgs_nil fun vs σ H Q ⟨G, F, env, ds, env', R, q, e, k⟩ => ?_
      cases ds with
      | nil =>
        cases e
        cases q
        exact ⟨rfl, k σ R rfl (fun _ _ => rfl) fun _ z => z⟩
      | cons _ _ => cases e
    | cons _ _ => exact absurd h Bool.false_ne_true
  | .cons g r, es, h => by
    cases es with
    | nil => exact absurd h Bool.false_ne_true
    | cons z zs =>
      have h : (chkG C S g z && notStar z && chkGs C S r zs) = true := h
      rw [Bool.and_eq_true, Bool.and_eq_true] at h
      have p1 := sG hC hS g z h.1.1
      have p2 := sGs hC hS r zs h.2
      refine pgs_mono (pgs_cons p1 p2 (by cases z <;> first | exact absurd h.1.2 Bool.false_ne_true | rfl)) fun vs σ H Q ⟨G, F, env, ds, env', R, q, e, k⟩ => ?_
      cases ds with
      | nil => cases e
      | cons d ds =>
        obtain ⟨env1, e1, e2⟩ := obind e
        cases q with
        | cons q1 q2 =>
          refine ⟨_, _, rfl, G, F, env, d, env1, R, q1, e1, fun σ1 R1 l1 l2 l3 => ⟨G, F, env1, ds, env', R1, q2, e2, fun σ2 R2 m1 m2 m3 => ?_⟩⟩
          refine k σ2 R2 (m1.trans l1) (fun j hj => ?_) fun b z => l3 b (m3 b z)
          have hj : j ∉ slotsG g ++ slotsGs r := hj
          rw [List.mem_append, not_or] at hj
          rw [m2 j hj.2, l2 j hj.1]
end
end
end PF

/-! PF9: what is walked, comprehensions, tests; the soundness of expressions. -/
namespace PF
open PySem PySem.Spec PyProof.Rows L2
section
variable {X : Cx} {C : Cfg} {S : Sc} {Γ : Tab} {n : Nat} {tg : Expr}
theorem oite {α : Type} {c : Prop} [Decidable c] {a : Option α} {y : α} (h : (if c then a else none) = some y) : c ∧ a = some y := by
  by_cases hc : c
  · rw [if_pos hc] at h
    exact ⟨hc, h⟩
  · rw [if_neg hc] at h
    cases h
/-! ### what is walked -/
theorem i_e {a : IE} {z : Expr} (ha : PE X z (rE X.K Γ C.cons a)) : PI X tg z (rI X.K Γ C.cons (.e a)) := by
  refine ⟨fun pins s σ H Q I ⟨G, F, env, ds, env', R, e, k⟩ => ?_⟩
  obtain ⟨q, e1, e⟩ := obind e
  split at e
  · rename_i xs ed
    cases e
    refine (pi_list ha).run pins s σ H Q I ⟨G, F, env, q.1, q.2, R, e1, fun v H1 F1 R1 E1 q1 => ?_⟩
    obtain ⟨F2, R2, E2, q2⟩ := R.settle R1 E1 q1
    rw [ed] at q2
    cases q2 with
    | lst h1 h2 => exact ⟨_, rfl, ⟨_, (rdlMono R2.sub h1).sql⟩, k _ H1 F2 R2 E2 (walkD_list h1 h2)⟩
  · rename_i xs ed
    cases e
    refine (pi_tup ha).run pins s σ H Q I ⟨G, F, env, q.1, q.2, R, e1, fun v H1 F1 R1 E1 q1 => ?_⟩
    obtain ⟨F2, R2, E2, q2⟩ := R.settle R1 E1 q1
    rw [ed] at q2
    cases q2 with
    | tup h1 h2 => exact ⟨_, rfl, ⟨_, sqtMono R2.sub h1⟩, k _ H1 F2 R2 E2 (walkD_tup h1 h2)⟩
  · cases e
theorem i_r1 (hC : COk X C Γ n) (hS : SOk X S) {a : IE} {z : Expr} {x : Str} {p pos : Pos} (hx : x = "range") (hg : glS S x = true) (ha : PE X z (rH X.K Γ C.cons a)) (pz : plainA z = true) : PI X tg (.Call (.Name x p) [z] [] pos) (rI X.K Γ C.cons (.r1 a)) := by
  subst hx
  refine pi_mono (pi_range1 (gl_of hS hg) (blt_of hC (by decide +kernel)) (pa_cons ha pa_nil (plain_star pz _ _)) (plain_star pz _ _)) fun σ H Q ⟨G, F, env, ds, env', R, e, k⟩ => ?_
  obtain ⟨q, e1, e⟩ := obind e
  obtain ⟨d, e2, e⟩ := obind e
  cases d <;> first | cases e | skip
  refine ⟨G, F, env, q.1, q.2, R, e1, fun v H1 F1 R1 E1 q1 => ?_⟩
  cases opd_int (q1.opd R1 e2)
  simp only at e
  obtain ⟨ds', e3, e⟩ := obind e
  unfold rngO at e3
  obtain ⟨hj, e3⟩ := oite e3
  cases e3
  cases e
  rw [Int.sub_zero] at k
  exact ⟨_, rfl, (log_rg2 hj.2).1, (log_rg2 hj.2).2, k _ H1 F1 R1 E1 (walkD_range 0 _)⟩
theorem i_r2 (hC : COk X C Γ n) (hS : SOk X S) {a b : IE} {z w : Expr} {x : Str} {p pos : Pos} (hx : x = "range") (hg : glS S x = true) (ha : PE X z (rH X.K Γ C.cons a)) (pz : plainA z = true) (hb : PE X w (rH X.K Γ C.cons b)) (pw : plainA w = true) :
    PI X tg (.Call (.Name x p) [z, w] [] pos) (rI X.K Γ C.cons (.r2 a b)) := by
  subst hx
  have s2 := plain_star pw [] X.env
  have s1 := plain_star pz [w] X.env
  refine pi_mono (pi_range2 (gl_of hS hg) (blt_of hC (by decide +kernel)) (pa_cons ha (pa_cons hb pa_nil s2) s1) (by rw [s1, s2]; rfl) (by rw [s2]; rfl)) fun σ H Q ⟨G, F, env, ds, env', R, e, k⟩ => ?_
  obtain ⟨q, e1, e⟩ := obind e
  obtain ⟨q', e2, e⟩ := obind e
  obtain ⟨d, e3, e⟩ := obind e
  obtain ⟨d', e4, e⟩ := obind e
  refine two_ops R e1 e2 fun v u H2 F2 R2 E2 q1 q2 => ?_
  cases d <;> first | cases e | skip
  cases d' <;> first | cases e | skip
  cases opd_int (q1.opd R2 e3)
  cases opd_int (q2.opd R2 e4)
  simp only at e
  obtain ⟨ds', e5, e⟩ := obind e
  unfold rngO at e5
  obtain ⟨hj, e5⟩ := oite e5
  cases e5
  cases e
  exact ⟨_, _, rfl, ⟨(log_rg2 hj.1).1, (log_rg2 hj.1).2, (log_rg2 hj.2).1, (log_rg2 hj.2).2⟩, k _ H2 F2 R2 E2 (walkD_range _ _)⟩
theorem i_rd (hC : COk X C Γ n) (hS : SOk X S) {a b : IE} {z w : Expr} {x : Str} {p pos p1 p2 : Pos} {kk : Nat} (hx : x = "range") (hg : glS S x = true) (ha : PE X z (rH X.K Γ C.cons a)) (pz : plainA z = true) (hb : PE X w (rH X.K Γ C.cons b)) (pw : plainA w = true) :
    PI X tg (.Call (.Name x p) [z, w, .UnaryOp .USub (.Constant (.int 1) kk p1) p2] [] pos) (rI X.K Γ C.cons (.rd a b)) := by
  subst hx
  have s2 := plain_star pw [.UnaryOp .USub (.Constant (.int 1) kk p1) p2] X.env
  have s1 := plain_star pz [w, .UnaryOp .USub (.Constant (.int 1) kk p1) p2] X.env
  refine pi_mono (pi_range3 (gl_of hS hg) (blt_of hC (by decide +kernel)) (pa_cons ha (pa_cons hb (pa_cons (pe_un un_neg pe_int) pa_nil rfl) s2) s1) (by rw [s1]) (by rw [s2]; rfl)) fun σ H Q ⟨G, F, env, ds, env', R, e, k⟩ => ?_
  obtain ⟨q, e1, e⟩ := obind e
  obtain ⟨q', e2, e⟩ := obind e
  obtain ⟨d, e3, e⟩ := obind e
  obtain ⟨d', e4, e⟩ := obind e
  refine two_ops R e1 e2 fun v u H2 F2 R2 E2 q1 q2 => ?_
  cases d <;> first | cases e | skip
  cases d' <;> first | cases e | skip
  cases opd_int (q1.opd R2 e3)
  cases opd_int (q2.opd R2 e4)
  simp only at e
  obtain ⟨ds', e5, e⟩ := obind e
  unfold dwnO at e5
  obtain ⟨hj, e5⟩ := oite e5
  cases e5
  cases e
  exact ⟨1, rfl, _, _, -1, _, rfl, RgC.neg (log_rg2 hj.1).1 (log_rg2 hj.1).2 (log_rg2 hj.2).1 (log_rg2 hj.2).2, k _ H2 F2 R2 E2 (walkD_down _ _)⟩
theorem walk_zipT {K : PySem.W.Frag} {a b : Addr} {xs ys : List V} {m : Nat} (hn : m = min xs.length ys.length) : Walk (RZ.ItzT K a b) m (fun H => SqT K H a xs ∧ SqT K H b ys) (YPair (fun i => xs[i]?) (fun i => ys[i]?)) := by
  subst hn
  refine ⟨fun i H hi q => ?_, fun H q => ⟨xs, ys, q.1, q.2, by omega⟩, fun i H v H' hi q y => ?_⟩
  · exact ⟨xs, ys, xs[i]'(by omega), ys[i]'(by omega), q.1, q.2, List.getElem?_eq_getElem (by omega), List.getElem?_eq_getElem (by omega)⟩
  · obtain ⟨T, x, z, h1, h2, h3, h4, h5⟩ := y
    exact ⟨T, x, z, h1, h2, h3, h4 xs q.1, h5 ys q.2⟩
theorem walkD_zipT {K : PySem.W.Frag} {F : Hp} {p p2 : Addr} {vs ws : List V} {ds es : List PyData} (h : SqT K F p vs) (q : DqAll K F vs ds) (h2 : SqT K F p2 ws) (q2 : DqAll K F ws es) : WalkD K F (RZ.ItzT K p p2) (zipD ds es) := by
  refine ⟨fun H => SqT K H p vs ∧ SqT K H p2 ws, YPair (fun i => vs[i]?) (fun i => ws[i]?), ?_, fun H s => ⟨sqtMono s h, sqtMono s h2⟩, fun i H x H' F1 hi y m s => ?_⟩
  · exact walk_zipT (by rw [zipD_len, dpAll_len q, dpAll_len q2])
  · obtain ⟨T, a, b, e1, e2, e3, e4, e5⟩ := y
    obtain ⟨da, g1, k1⟩ := dpAll_get' q e4
    obtain ⟨db, g2, k2⟩ := dpAll_get' q2 e5
    obtain ⟨F2, c1, c2, c3, cn, c4, c5⟩ := pairStep e1 e2 e3 s (dpMono m _ k1) (dpMono m _ k2)
    exact ⟨F2, c1, c2, c3, cn, c4, _, zipD_get g1 g2, c5⟩
theorem walkD_enumT {K : PySem.W.Frag} {F : Hp} {p : Addr} {vs : List V} {ds : List PyData} (h : SqT K F p vs) (q : DqAll K F vs ds) : WalkD K F (IteT K p) (enumD 0 ds) := by
  refine ⟨fun H => SqT K H p vs, YPair (fun i => some (.int (i : Nat))) (fun i => vs[i]?), ?_, fun H s => sqtMono s h, fun i H x H' F1 hi y m s => ?_⟩
  · rw [enumD_len, ← dpAll_len q]
    exact walk_enumT
  · obtain ⟨T, a, b, e1, e2, e3, e4, e5⟩ := y
    have e4' : V.int (i : Nat) = a := Option.some.inj e4
    subst e4'
    obtain ⟨db, g2, k2⟩ := dpAll_get' q e5
    obtain ⟨F2, c1, c2, c3, cn, c4, c5⟩ := pairStep e1 e2 e3 s (.int (i : Nat)) (dpMono m _ k2)
    refine ⟨F2, c1, c2, c3, cn, c4, _, enumD_get g2, ?_⟩
    rw [Nat.zero_add]
    exact c5
theorem i_zip (hC : COk X C Γ n) (hS : SOk X S) {a b : IE} {z w : Expr} {x : Str} {p pos : Pos} (ht : isTupA tg = true) (hx : x = "zip") (hg : glS S x = true) (ha : PE X z (rE X.K Γ C.cons a)) (pz : plainA z = true) (hb : PE X w (rE X.K Γ C.cons b)) (pw : plainA w = true) :
    PI X tg (.Call (.Name x p) [z, w] [] pos) (rI X.K Γ C.cons (.zip a b)) := by
  subst hx
  have s2 := plain_star pw [] X.env
  have s1 := plain_star pz [w] X.env
  cases tg with
  | Tuple elts kk tp =>
    refine pi_mono (RZ.pi_zipA (gl_of hS hg) (blt_of hC (by decide +kernel)) (pa_cons ha (pa_cons hb pa_nil s2) s1) s1 (by rw [s2]; rfl)) fun σ H Q ⟨G, F, env, ds, env', R, e, k⟩ => ?_
    obtain ⟨q, e1, e⟩ := obind e
    obtain ⟨q', e2, e⟩ := obind e
    refine ⟨G, F, env, q.1, q.2, R, e1, fun v H1 F1 R1 E1 q1 => ?_⟩
    obtain ⟨F2, R2, E2, k1⟩ := R.settle R1 E1 q1
    refine ⟨G, F2, q.2, q'.1, q'.2, R2, e2, fun u H3 F3 R3 E3 q3 => ?_⟩
    obtain ⟨F4, R4, E4, k2⟩ := R2.settle R3 E3 q3
    have k1' := dpMono E4.mono _ k1
    split at e
    · rename_i xs ys ed ed'
      cases e
      rw [ed] at k1'
      rw [ed'] at k2
      cases k1' with
      | lst h1 h2 =>
        cases k2 with
        | lst h3 h4 => exact ⟨_, _, _, _, rfl, .inl ⟨(rdlMono R4.sub h1).sql, (rdlMono R4.sub h3).sql, k _ H3 F4 R4 (E2.trans E4) (walkD_zipL h1 h2 h3 h4)⟩⟩
    · rename_i xs ys ed ed'
      cases e
      rw [ed] at k1'
      rw [ed'] at k2
      cases k1' with
      | tup h1 h2 =>
        cases k2 with
        | tup h3 h4 => exact ⟨_, _, _, _, rfl, .inr ⟨sqtMono R4.sub h1, sqtMono R4.sub h3, k _ H3 F4 R4 (E2.trans E4) (walkD_zipT h1 h2 h3 h4)⟩⟩
    · cases e
  | _ => exact absurd ht Bool.false_ne_true
theorem i_enum (hC : COk X C Γ n) (hS : SOk X S) {a : IE} {z : Expr} {x : Str} {p pos : Pos} (ht : isTupA tg = true) (hx : x = "enumerate") (hg : glS S x = true) (ha : PE X z (rE X.K Γ C.cons a)) (pz : plainA z = true) :
    PI X tg (.Call (.Name x p) [z] [] pos) (rI X.K Γ C.cons (.enum a)) := by
  subst hx
  have s1 := plain_star pz [] X.env
  cases tg with
  | Tuple elts kk tp =>
    refine pi_mono (pi_enum2 (gl_of hS hg) (blt_of hC (by decide +kernel)) (pa_cons ha pa_nil s1) s1) fun σ H Q ⟨G, F, env, ds, env', R, e, k⟩ => ?_
    obtain ⟨q, e1, e⟩ := obind e
    refine ⟨G, F, env, q.1, q.2, R, e1, fun v H1 F1 R1 E1 q1 => ?_⟩
    obtain ⟨F2, R2, E2, k1⟩ := R.settle R1 E1 q1
    split at e
    · rename_i xs ed
      cases e
      rw [ed] at k1
      cases k1 with
      | lst h1 h2 => exact ⟨_, _, rfl, .inl ⟨(rdlMono R2.sub h1).sql, k _ H1 F2 R2 E2 (walkD_enumL h1 h2)⟩⟩
    · rename_i xs ed
      cases e
      rw [ed] at k1
      cases k1 with
      | tup h1 h2 => exact ⟨_, _, rfl, .inr ⟨sqtMono R2.sub h1, k _ H1 F2 R2 E2 (walkD_enumT h1 h2)⟩⟩
    · cases e
  | _ => exact absurd ht Bool.false_ne_true
/-! ### list(range(..)) -/
theorem dq_rng {K : PySem.W.Frag} {F : Hp} (a b : Int) : DqAll K F (rgV a b) (rngD a (b - a).toNat) := by
  unfold rgV rngD
  generalize List.range (b - a).toNat = l
  induction l with
  | nil => exact .nil
  | cons i r ih => exact .cons (.int _) ih
theorem f_lrg (hC : COk X C Γ n) (hS : SOk X S) {a : IE} {z : Expr} {x y : Str} {p p2 pos pos2 : Pos} (hx : x = "list") (hg : glS S x = true) (hy : y = "range") (hg2 : glS S y = true) (ha : PE X z (rH X.K Γ C.cons a)) (pz : plainA z = true) :
    PE X (.Call (.Name x p) [.Call (.Name y p2) [z] [] pos2] [] pos) (rE X.K Γ C.cons (.lrg a)) := by
  subst hx hy
  refine pe_mono (pe_listRg hC.calm (gl_of hS hg) (blt_of hC (by decide +kernel)) (prg_1 (gl_of hS hg2) (blt_of hC (by decide +kernel)) ha (plain_star pz _ _))) fun σ H Q ⟨G, F, env, r, env', R, e, k⟩ => ?_
  obtain ⟨q, e1, e⟩ := obind e
  obtain ⟨d, e2, e⟩ := obind e
  cases d <;> first | cases e | skip
  refine ⟨G, F, env, q.1, q.2, R, e1, fun v H1 F1 R1 E1 q1 => ?_⟩
  cases opd_int (q1.opd R1 e2)
  simp only at e
  obtain ⟨ds', e3, e⟩ := obind e
  unfold lrgO at e3
  obtain ⟨hj, e3⟩ := oite e3
  cases e3
  cases e
  exact ⟨_, rfl, ⟨(log_rg2 hj.1).1, (log_rg2 hj.1).2, (log_rg2 hj.2.1).1, (log_rg2 hj.2.1).2, hj.2.2⟩, fun D hD => (made_of E1 R1 k).o R1.sub (dq_rng _ _) hD⟩
theorem f_lrg2 (hC : COk X C Γ n) (hS : SOk X S) {a b : IE} {z w : Expr} {x y : Str} {p p2 pos pos2 : Pos} (hx : x = "list") (hg : glS S x = true) (hy : y = "range") (hg2 : glS S y = true) (ha : PE X z (rH X.K Γ C.cons a)) (pz : plainA z = true) (hb : PE X w (rH X.K Γ C.cons b)) (pw : plainA w = true) :
    PE X (.Call (.Name x p) [.Call (.Name y p2) [z, w] [] pos2] [] pos) (rE X.K Γ C.cons (.lrg2 a b)) := by
  subst hx hy
  refine pe_mono (pe_listRg hC.calm (gl_of hS hg) (blt_of hC (by decide +kernel)) (prg_2 (gl_of hS hg2) (blt_of hC (by decide +kernel)) ha hb (plain_star pz _ _) (plain_star pw _ _) (by rw [plain_star pw [] X.env]; rfl))) fun σ H Q ⟨G, F, env, r, env', R, e, k⟩ => ?_
  obtain ⟨q, e1, e⟩ := obind e
  obtain ⟨q', e2, e⟩ := obind e
  obtain ⟨d, e3, e⟩ := obind e
  obtain ⟨d', e4, e⟩ := obind e
  refine two_ops R e1 e2 fun v u H2 F2 R2 E2 q1 q2 => ?_
  cases d <;> first | cases e | skip
  cases d' <;> first | cases e | skip
  cases opd_int (q1.opd R2 e3)
  cases opd_int (q2.opd R2 e4)
  simp only at e
  obtain ⟨ds', e5, e⟩ := obind e
  unfold lrgO at e5
  obtain ⟨hj, e5⟩ := oite e5
  cases e5
  cases e
  exact ⟨_, _, rfl, rfl, ⟨(log_rg2 hj.1).1, (log_rg2 hj.1).2, (log_rg2 hj.2.1).1, (log_rg2 hj.2.1).2, hj.2.2⟩, fun D hD => (made_of E2 R2 k).o R2.sub (dq_rng _ _) hD⟩
/-! ### comprehensions -/
structure Wx (K : PySem.W.Frag) (P : Addr → Prop) (H F H' F' : Hp) : Prop where
  mono : Same F F'
  keep : ∀ b o, H b = some o → NT o → ¬ P b → H' b = some o
  live : ∀ b, H b ≠ none → H' b ≠ none
  fresh : ∀ b, F' b ≠ none → F b ≠ none ∨ H b = none ∨ P b
  tabs : Tm K H H'
theorem Wx.refl {K : PySem.W.Frag} {P : Addr → Prop} {H F : Hp} : Wx K P H F H F := ⟨Same.refl _, fun _ _ h _ _ => h, fun _ h => h, fun _ h => .inl h, Tm.refl _⟩
theorem Wx.trans {K : PySem.W.Frag} {P : Addr → Prop} {H F H1 F1 H2 F2 : Hp} (a : Wx K P H F H1 F1) (b : Wx K P H1 F1 H2 F2) : Wx K P H F H2 F2 := by
  refine ⟨a.mono.trans b.mono, fun c o h t n => b.keep c o (a.keep c o h t n) t n, fun c h => b.live c (a.live c h), fun c h => ?_, a.tabs.trans b.tabs⟩
  rcases b.fresh c h with z | z | z
  · exact a.fresh c z
  · refine .inr (.inl ?_)
    cases e : H c with
    | none => rfl
    | some o => exact absurd z (a.live c (by rw [e]; simp))
  · exact .inr (.inr z)
theorem Ext.wx {K : PySem.W.Frag} {σ : L2.St} {env env' : En} {H F H' F' : Hp} {P : Addr → Prop} (E : Ext K σ env H F H' F' env') (h : ∀ b, Own σ env b → P b) : Wx K P H F H' F' :=
  ⟨E.mono, fun b o a t n => E.keep b o a t fun z => n (h b z), E.live, fun b a => (E.fresh b a).imp_right fun z => z.imp_right (h b), E.tabs⟩
theorem Wx.poke {K : PySem.W.Frag} {P : Addr → Prop} {H F H' F' : Hp} {D : Addr} {o : HO} (w : Wx K P H F H' F') (hD : H D = none) (da : Da H' D) (nl : NL o := by first | exact NL.lst | exact NL.tup | exact NL.dK | exact NL.fdK | (intro _ _ z; cases z) | (intro _ _ z; unfold LamX.CodeO at z; cases z)) : Wx K P H F (upd H' D o) F' := by
  refine ⟨w.mono, fun b u a nt n => ?_, fun b a => ?_, w.fresh, w.tabs.trans (Tm.upd da nl)⟩
  · rw [upd_ne (ne_of_none a hD)]
    exact w.keep b u a nt n
  · by_cases hb : b = D
    · subst hb
      rw [upd_same]
      simp
    · rw [upd_ne hb]
      exact w.live b a
def lcTurn (Γ : Tab) (cons : List (Str × PyData)) (own : List (Str × Nat)) (g : IG) (c : IT) (e : IE) : PyData → En → Option (Option PyData × En) := fun d en => (runG g d en).bind fun en1 => (runT Γ cons c en1).bind fun t =>
  if t.1 = true then (runE Γ cons e t.2).bind fun y => some (some y.1.d, wipeE y.2 own) else some (none, wipeE t.2 own)
/-- the walk of a comprehension: T its turn on data, Cd what a turn checks ahead -/
theorem lc_fin {own : List (Str × Nat)} {g : IG} {c : IT} {e : IE} (hsl : ∀ i ∈ slotsG g, i ∈ ixs own) {σ : L2.St} {Q : VK} {G : Gh} {H1 F1 : Hp} {p2 : En} {ds : List PyData} {q : List PyData × En} {J : It} {Gd : Hp → Prop} {Y : Nat → Hp → V → Hp → Prop}
    {T : PyData → En → Option (Option PyData × En)} {Cd : En → Prop} (R1 : Rel X.K G σ H1 F1 p2) (hn : noOwn p2 own = true) (hz : q.1.length ≤ sizeLine) (wk : Walk J ds.length Gd Y) (hT : ∀ d en r, T d en = some r → Cd en ∧ lcTurn Γ C.cons own g c e d en = some r) (hend : Cd q.2)
    (wG : ∀ H2 F2 e2, Rel X.K G (wipe σ (ixs own)) H2 F2 e2 → Same F1 F2 → Cd e2 → Gd H2)
    (wY : ∀ i H x H' F2 e2, i < ds.length → Y i H x H' → Rel X.K G (wipe σ (ixs own)) H F2 e2 → Same F1 F2 → Cd e2 → ∃ F3, Same F2 F3 ∧ Same F3 H' ∧ Same H H' ∧ NFS H H' ∧ (∀ b, F3 b ≠ none → F2 b ≠ none ∨ H b = none) ∧ ∃ d, ds[i]? = some d ∧ Dq X.K F3 x d)
    (e2 : compD T ds (wipeE p2 own) = some q) (k : ∀ v H' F', Rel X.K G σ H' F' (backE p2 q.2 own) → Ext X.K σ p2 H1 F1 H' F' (backE p2 q.2 own) → RV X.K H1 H' F' v (.o q.1) → Q v H') (D : Addr) (hD : H1 D = none) :
    ∃ W : Nat → Nat → Hp → Prop, (∃ m, W 0 m (upd H1 D (.lst []))) ∧ ∀ i m H, W i m H →
      (J.stop i H ∧ Q (.ref D) H) ∨ (J.go i H ∧ ∃ Nx : Hp → Prop, (∀ H', Nx H' → ∃ m', m' < m ∧ W (i + 1) m' H') ∧ ∀ x H', J.yld i H x H' → rG X.K g x (wipe σ (ixs own)) H' fun σ2 H2 => wipe σ2 (ixs own) = wipe σ (ixs own) ∧ rT X.K Γ C.cons c σ2 H2 fun b H3 =>
        if b = true then rE X.K Γ C.cons e σ2 H3 fun y H4 => ∃ acc, H4 D = some (.lst acc) ∧ acc.length < sizeLine ∧ Nx (upd H4 D (.lst (acc ++ [y]))) else Nx H3) := by
  have hF1 : F1 D = none := R1.sub.free hD
  have hG0 : G.H0 D = none := by
    cases z : G.H0 D with
    | none => rfl
    | some o => exact absurd hD (R1.live D (by rw [z]; simp))
  have noD : ¬ Own σ p2 D := fun z => (R1.ownAt z).1 hD
  obtain ⟨RW, OW⟩ := R1.wiped own
  refine lc_it wk (fun i H2 => ∃ F2 e2 acc ds2 rest, Rel X.K G (wipe σ (ixs own)) H2 F2 e2 ∧ Wx X.K (Own σ p2) H1 F1 H2 F2 ∧ (∀ b, Own (wipe σ (ixs own)) e2 b → Own σ p2 b) ∧ H2 D = some (.lst acc) ∧ F2 D = none ∧ DqAll X.K F2 acc ds2 ∧
    compD T (ds.drop i) e2 = some (rest, q.2) ∧ ds2 ++ rest = q.1) ?_ ?_ ?_ ?_
  · exact ⟨F1, wipeE p2 own, [], [], q.1, RW.poke hG0 hF1 (fun z => noD (OW D z)) (Da.no hD), Wx.refl.poke hD (Da.no hD), OW, upd_same, hF1, .nil, e2, rfl⟩
  · rintro i H2 hi0 ⟨F2, e2, acc, ds2, rest, R2, w2, _, _, _, _, hc, _⟩
    refine wG H2 F2 e2 R2 w2.mono ?_
    by_cases hi : i < ds.length
    · rw [List.drop_eq_getElem_cons hi] at hc
      obtain ⟨t, ht, _⟩ := obind hc
      exact (hT _ _ _ ht).1
    · rw [List.drop_eq_nil_of_le (by omega)] at hc
      cases hc
      exact hend
  · rintro i x H2 H3 hi ⟨F2, en, acc, ds2, rest, R2, w2, ow2, hacc, hF2, qacc, hc, happ⟩ y
    have hcd : Cd en := by
      rw [List.drop_eq_getElem_cons hi] at hc
      obtain ⟨t, ht, _⟩ := obind hc
      exact (hT _ _ _ ht).1
    obtain ⟨F3, m1, m2, m3, nf, fr, d, hd, qd⟩ := wY i H2 x H3 F2 en hi y R2 w2.mono hcd
    obtain ⟨R3, E3⟩ := R2.grow m1 m2 m3 nf fr
    have hdr : ds.drop i = d :: ds.drop (i + 1) := by
      rw [List.drop_eq_getElem_cons hi]
      rw [List.getElem?_eq_getElem hi] at hd
      cases hd
      rfl
    rw [hdr] at hc
    obtain ⟨t, ht, hc⟩ := obind hc
    obtain ⟨u, hu, hc⟩ := obind hc
    have ht := (hT _ _ _ ht).2
    obtain ⟨en1, eg, ht⟩ := obind ht
    obtain ⟨b, eb, ht⟩ := obind ht
    have noD2 : ¬ Own (wipe σ (ixs own)) en D := fun z => noD (ow2 D z)
    have hD3 : H3 D = some (.lst acc) := m3 D _ hacc
    have hF3 : F3 D = none := by
      cases z : F3 D with
      | none => rfl
      | some o =>
        rcases fr D (by rw [z]; simp) with z2 | z2
        · exact absurd hF2 z2
        · rw [hacc] at z2
          cases z2
    refine ⟨G, F3, en, d, en1, R3, qd, eg, fun σ2 R4 l1 l2 l3 => ?_⟩
    have hwipe : wipe σ2 (ixs own) = wipe σ (ixs own) := by
      rw [wipe_eq l1 fun j hj => l2 j fun z => hj (hsl j z)]
      exact wipe_wipe σ (ixs own)
    refine ⟨hwipe, G, F3, en1, b.1, b.2, R4, eb, fun H5 F5 R5 E5 => ?_⟩
    have ow4 : ∀ a, Own σ2 en1 a → Own σ p2 a := fun a z => ow2 a (l3 a z)
    have w5 : Wx X.K (Own σ p2) H1 F1 H5 F5 := (w2.trans (E3.wx ow2)).trans (E5.wx ow4)
    have ow5 : ∀ a, Own σ2 b.2 a → Own σ p2 a := fun a z => ow4 a (E5.own a z)
    have hD5 : H5 D = some (.lst acc) := E5.keep D _ hD3 NT.lst fun z => noD (ow4 D z)
    have hF5 : F5 D = none := by
      cases z : F5 D with
      | none => rfl
      | some o =>
        rcases E5.fresh D (by rw [z]; simp) with z2 | z2 | z2
        · exact absurd hF3 z2
        · rw [hD3] at z2
          cases z2
        · exact absurd (ow4 D z2) noD
    cases hb : b.1 with
    | true =>
      rw [if_pos hb] at ht
      obtain ⟨y2, ey, ht⟩ := obind ht
      cases ht
      have hc : some (y2.1.d :: u.1, u.2) = some (rest, q.2) := hc
      have hq := Prod.mk.inj (Option.some.inj hc)
      have h1 : y2.1.d :: u.1 = rest := hq.1
      have h2 : u.2 = q.2 := hq.2
      subst h1
      refine iteT ⟨G, F5, b.2, y2.1, y2.2, R5, ey, fun v H6 F6 R6 E6 q6 => ?_⟩
      obtain ⟨F7, R7, E7, q7⟩ := R5.settle R6 E6 q6
      have hD6 : H6 D = some (.lst acc) := E7.keep D _ hD5 NT.lst fun z => noD (ow5 D z)
      have hF7 : F7 D = none := by
        cases z : F7 D with
        | none => rfl
        | some o =>
          rcases E7.fresh D (by rw [z]; simp) with z2 | z2 | z2
          · exact absurd hF5 z2
          · rw [hD5] at z2
            cases z2
          · exact absurd (ow5 D z2) noD
      obtain ⟨R8, O8⟩ := R7.wiped own
      rw [hwipe] at R8 O8
      have ow8 : ∀ a, Own (wipe σ (ixs own)) (wipeE y2.2 own) a → Own σ p2 a := fun a z => ow5 a (E7.own a (O8 a z))
      have w8 : Wx X.K (Own σ p2) H1 F1 H6 F7 := w5.trans (E7.wx ow5)
      have qacc7 : DqAll X.K F7 acc ds2 := dpAllMono (m1.trans (E5.mono.trans E7.mono)) _ qacc
      refine ⟨acc, hD6, ?_, F7, wipeE y2.2 own, acc ++ [v], ds2 ++ [y2.1.d], u.1, R8.poke hG0 hF7 (fun z => noD (ow8 D z)) (Da.of hD6 (.inl ⟨_, rfl⟩)), w8.poke hD (Da.of hD6 (.inl ⟨_, rfl⟩)), ow8, upd_same, hF7, dpAll_app qacc7 (.cons q7 .nil), by rw [← h2]; exact hu, ?_⟩
      · rw [dpAll_len qacc]
        have := congrArg List.length happ
        rw [List.length_append, List.length_cons] at this
        omega
      · rw [List.append_assoc]
        exact happ
    | false =>
      rw [if_neg (by rw [hb]; exact Bool.false_ne_true)] at ht
      cases ht
      cases hc
      obtain ⟨R8, O8⟩ := R5.wiped own
      rw [hwipe] at R8 O8
      exact iteF ⟨F5, wipeE b.2 own, acc, ds2, rest, R8, w5, fun a z => ow5 a (O8 a z), hD5, hF5, dpAllMono (m1.trans E5.mono) _ qacc, hu, happ⟩
  · rintro H2 ⟨F2, en, acc, ds2, rest, R2, w2, ow2, hacc, hF2, qacc, hc, happ⟩
    rw [List.drop_length] at hc
    cases hc
    rw [List.append_nil] at happ
    subst happ
    obtain ⟨Rb, Ob⟩ := R1.back hn R2 w2.mono
    exact k (.ref D) H2 F2 Rb ⟨w2.mono, w2.keep, w2.live, w2.fresh, fun b z => ow2 b (Ob b z), w2.tabs⟩ ⟨D, acc, rfl, hD, hF2, hacc, qacc⟩
theorem lcR {own : List (Str × Nat)} {g : IG} {it : II} {c : IT} {e : IE} (hsl : ∀ i ∈ slotsG g, i ∈ ixs own) {σ : L2.St} {H : Hp} {Q : VK} (h : rE X.K Γ C.cons (.lc own g it c e) σ H Q) :
    tLc (rI X.K Γ C.cons it) (rG X.K g) (rT X.K Γ C.cons c) (rE X.K Γ C.cons e) (own.map (·.2)) σ H Q := by
  obtain ⟨G, F, env, r, env', R, ev, k⟩ := h
  obtain ⟨p, e1, ev⟩ := obind ev
  obtain ⟨hn, ev⟩ := oite ev
  obtain ⟨q, e2, ev⟩ := obind ev
  obtain ⟨hz, ev⟩ := oite ev
  cases ev
  refine ⟨G, F, env, p.1, p.2, R, e1, fun J H1 F1 R1 E1 wd D hD => ?_⟩
  obtain ⟨Gd, Y, wk, wG, wY⟩ := wd.ex
  refine lc_fin (T := lcTurn Γ C.cons own g c e) (Cd := fun _ => True) hsl R1 hn hz wk (fun d en r h => ⟨trivial, h⟩) trivial (fun H2 F2 e2 R2 m _ => wG H2 (m.trans R2.sub)) (fun i H x H' F2 e2 hi y R2 m _ => wY i H x H' F2 hi y m R2.sub) e2 (fun v H' F' R' E' q' => k v H' F' R' (E1.trans E') ?_) D hD
  obtain ⟨D', acc, rfl, h1, h2, h3, h4⟩ := q'
  refine ⟨D', acc, rfl, ?_, h2, h3, h4⟩
  cases z : H D' with
  | none => rfl
  | some o => exact absurd h1 (E1.live D' (by rw [z]; simp))
/-! ### a comprehension over a name's own list, where it stands -/
mutual
theorem eqP_of : ∀ (a b : PyData), eqP a b = true → a = b
  | .none, b, h => by
    cases b <;> first | rfl | cases h
  | .bool x, b, h => by
    cases b with
    | bool y =>
      have h : (x == y) = true := h
      rw [eq_of_beq h]
    | _ => cases h
  | .int x, b, h => by
    cases b with
    | int y => rw [of_decide_eq_true (show decide (x = y) = true from h)]
    | _ => cases h
  | .str x, b, h => by
    cases b with
    | str y => rw [of_decide_eq_true (show decide (x = y) = true from h)]
    | _ => cases h
  | .list x, b, h => by
    cases b with
    | list y => rw [eqPs_of x y h]
    | _ => cases h
  | .tuple x, b, h => by
    cases b with
    | tuple y => rw [eqPs_of x y h]
    | _ => cases h
  | .dict _, b, h => by cases b <;> cases h
theorem eqPs_of : ∀ (a b : List PyData), eqPs a b = true → a = b
  | [], [], _ => rfl
  | [], _ :: _, h => by cases h
  | _ :: _, [], h => by cases h
  | x :: r, y :: s, h => by
    have h : (eqP x y && eqPs r s) = true := h
    rw [Bool.and_eq_true] at h
    rw [eqP_of x y h.1, eqPs_of r s h.2]
end
theorem sameL_of {env : En} {i : Nat} {ds : List PyData} (h : sameL env i ds = true) : ∃ s, env.at i = some s ∧ s.m = some (.l ds) := by
  unfold sameL atS at h
  split at h
  · rename_i es he
    cases eqPs_of _ _ h
    split at he
    · cases he
      exact ⟨_, by assumption, rfl⟩
    · cases he
      exact ⟨_, by assumption, rfl⟩
    · cases he
  · cases h
theorem atS_ofN {env : En} {i : Nat} {xs : List PyData} (h : atS env i = some xs) : ∃ s, env.at i = some s ∧ s.m = some (.l xs) := by
  unfold atS at h
  split at h
  · cases h
    exact ⟨_, by assumption, rfl⟩
  · cases h
    exact ⟨_, by assumption, rfl⟩
  · cases h
theorem walk_listN {K : PySem.W.Frag} {a : Addr} {n : Nat} : Walk (Itl K a) n (fun H => ∃ xs, SqL K H a xs ∧ xs.length = n) (fun i H x H' => H' = H ∧ ∀ xs, SqL K H a xs → xs[i]? = some x) :=
  ⟨fun i _ hi ⟨xs, q, e⟩ => ⟨xs, xs[i]'(by omega), q, by simp [show i < xs.length by omega]⟩, fun _ ⟨xs, q, e⟩ => ⟨xs, q, Nat.le_of_eq e⟩, fun _ _ _ _ _ _ y => ⟨y.1, fun xs q => y.2 xs q⟩⟩
theorem lclR {own : List (Str × Nat)} {i : Nat} {g : IG} {c : IT} {e : IE} (hsl : ∀ i ∈ slotsG g, i ∈ ixs own) {σ : L2.St} {H : Hp} {Q : VK} (h : rE X.K Γ C.cons (.lcl own i g c e) σ H Q) :
    tLc (iList X.K (tVar i)) (rG X.K g) (rT X.K Γ C.cons c) (rE X.K Γ C.cons e) (own.map (·.2)) σ H Q := by
  obtain ⟨G, F, env, r, env', R, ev, k⟩ := h
  obtain ⟨ds, e1, ev⟩ := obind ev
  obtain ⟨⟨hn, hi⟩, ev⟩ := oite ev
  obtain ⟨q, e2, ev⟩ := obind ev
  obtain ⟨⟨hend, hz⟩, ev⟩ := oite ev
  cases ev
  obtain ⟨s, a1, b1⟩ := atS_ofN e1
  obtain ⟨p, vs, g1, f1, h1, dq, _⟩ := R.mu i s ds a1 b1
  have ni : i ∉ ixs own := fun z => by
    obtain ⟨w, hw, e⟩ := List.mem_map.mp z
    have := List.all_eq_true.mp hi w hw
    rw [e] at this
    simp at this
  have at2 : ∀ H2 F2 e2, Rel X.K G (wipe σ (ixs own)) H2 F2 e2 → sameL e2 i ds = true → ∃ ws, H2 p = some (.lst ws) ∧ DqAll X.K F2 ws ds := fun H2 F2 e2 R2 hs => by
    obtain ⟨s2, a2, b2⟩ := sameL_of hs
    obtain ⟨p2, ws, g2, _, h2, dq2, _⟩ := R2.mu i s2 ds a2 b2
    rw [wipe_get σ i _ ni, g1] at g2
    cases g2
    exact ⟨ws, h2, dq2⟩
  refine ⟨.ref p, g1, p, rfl, ⟨vs, .inl (.inl h1)⟩, fun D hD => ?_⟩
  refine lc_fin (T := fun d en => if sameL en i ds = true then lcTurn Γ C.cons own g c e d en else none) (Cd := fun en => sameL en i ds = true) hsl R hn hz (walk_listN (n := ds.length)) (fun d en r h => oite h) hend (fun H2 F2 e2 R2 m hs => ?_) (fun j H x H' F2 e2 hj y R2 m hs => ?_) e2 (fun v H' F' R' E' q' => k v H' F' R' E' q') D hD
  · obtain ⟨ws, h2, dq2⟩ := at2 H2 F2 e2 R2 hs
    exact ⟨ws, .inl (.inl h2), dpAll_len dq2⟩
  · obtain ⟨ws, h2, dq2⟩ := at2 H F2 e2 R2 hs
    obtain ⟨rfl, y⟩ := y
    obtain ⟨d, ed, qd⟩ := dpAll_get' dq2 (y ws (.inl (.inl h2)))
    exact ⟨F2, Same.refl _, R2.sub, Same.refl _, .refl _, fun _ z => .inl z, d, ed, qd⟩
end
end PF

/-! PF9d: dicts: readings and forms. -/
namespace PF
open PySem PySem.Spec PyProof.Rows L2
section
variable {K : PySem.W.Frag} {G : Gh} {σ : L2.St} {H F : Hp} {env : En}
theorem dct_of (R : Rel K G σ H F env) {i : Nat} {kvs : List (PyData × PyData)} (h : dctAt env i = some kvs) : ∃ p ps, σ[i]? = some (some (.ref p)) ∧ Rd H p (.dK ps) ∧ DqKV K F ps kvs := by
  unfold dctAt at h
  split at h
  · rename_i k e
    cases h
    obtain ⟨p, vs, a, f, hp, q, _⟩ := R.muD i _ _ e rfl
    exact ⟨p, vs, a, .inl hp, q⟩
  · rename_i k e
    split at h
    · cases h
    rename_i hq
    cases h
    obtain ⟨v, a, q⟩ := R.val i _ e
    cases q with
    | dct h1 h2 => exact ⟨_, _, a, rdMono R.sub h1, h2⟩
    | fnc _ => exact absurd rfl hq
  · cases h
theorem key_of {x : V} {y : PyData} {k : L2.Key} (o : Opd K F H x y) (e : keyD y = some k) : x = kV k := by
  cases y <;> first | cases e | skip
  · cases opd_int o
    rfl
  · cases opd_str o
    rfl
theorem keyV_of {x : V} {y : PyData} {k : L2.Key} (o : Dq K F x y) (e : keyD y = some k) : x = kV k := by
  cases y <;> first | cases e | skip
  · cases o
    rfl
  · cases o
    rfl
theorem look_of {k : L2.Key} : ∀ {ps : List (L2.Key × V)} {kvs : List (PyData × PyData)}, DqKV K F ps kvs → (∀ d, dlook kvs k = some d → ∃ v, valV ps k = some v ∧ Dq K F v d) ∧ (dlook kvs k = none → valV ps k = none)
  | _, [], h => by
    cases h
    exact ⟨fun _ e => (by cases e), fun _ => rfl⟩
  | _, (y, e) :: r, h => by
    cases h with
    | @cons k' x ps _ _ _ h0 h1 h2 =>
      have ih := look_of (k := k) h2
      unfold dlook
      by_cases hk : k' = k
      · subst hk
        simp only [h0, if_true]
        rw [valV_pos (p := (k', x)) rfl]
        exact ⟨fun d z => (by cases z; exact ⟨_, rfl, h1⟩), fun z => (by cases z)⟩
      · have h3 : ¬ (some k' = some k) := fun z => hk (Option.some.inj z)
        simp only [h0, if_neg h3]
        rw [valV_neg (p := (k', x)) hk]
        exact ih
end
section
variable (K : PySem.W.Frag) (Γ : Tab) (C : List (Str × PyData))
/-- an expression whose value is data -/
def rD (e : IE) : TE := fun σ H Q => ∃ G F env r env', Rel K G σ H F env ∧ runE Γ C e env = some (r, env') ∧ ∀ v H' F', Rel K G σ H' F' env' → Ext K σ env H F H' F' env' → Dq K F' v r.d → Q v H'
def trsOf : IL → List (TE × TE)
  | .cons a (.cons b r) => (rD K Γ C a, rD K Γ C b) :: trsOf r
  | _ => []
end
section
variable {X : Cx} {C : Cfg} {S : Sc} {Γ : Tab} {n : Nat}
theorem chkL_nil0 {es : IL} (h : chkL C S es [] = true) : es = .nil := by
  cases es <;> first | rfl | exact absurd h Bool.false_ne_true
theorem d_of {a : IE} {z : Expr} (p : PE X z (rE X.K Γ C.cons a)) : PE X z (rD X.K Γ C.cons a) :=
  pe_mono p fun σ H Q ⟨G, F, env, r, env', R, e, k⟩ => ⟨G, F, env, r, env', R, e, fun v H' F' R' E' q => by
    obtain ⟨F2, R2, E2, q2⟩ := R.settle R' E' q
    exact k v H' F2 R2 E2 q2⟩
theorem pairs_run {K : PySem.W.Frag} {cs : List (Str × PyData)} : ∀ (m : Nat) (es : IL) (zs : List Expr), zs.length ≤ m → chkL C S es zs = true → zs.all plainA = true → ∀ {G : Gh} {σ : L2.St} {H F : Hp} {env : En} {hs : List Hd} {env' : En} {ds : List PyData} {kvs : List (PyData × PyData)} {Q : List (V × V) → Hp → Prop},
    Rel K G σ H F env → runV Γ cs es env = some (hs, env') → getD hs = some ds → pairsD ds = some kvs →
    (∀ ks H' F', Rel K G σ H' F' env' → Ext K σ env H F H' F' env' → DqKV K F' ks kvs → Q (ks.map fun kv => (kV kv.1, kv.2)) H') → tPairs (trsOf K Γ cs es) σ H Q := by
  intro m
  induction m with
  | zero =>
    intro es zs hm hc hp G σ H F env hs env' ds kvs Q R e1 e2 e3 k
    cases zs with
    | cons z zs => simp at hm
    | nil =>
      cases chkL_nil0 hc
      cases e1
      cases e2
      cases e3
      exact k [] H F R Ext.refl .nil
  | succ m ih =>
    intro es zs hm hc hp G σ H F env hs env' ds kvs Q R e1 e2 e3 k
    cases es with
    | nil =>
      cases e1
      cases e2
      cases e3
      exact k [] H F R Ext.refl .nil
    | io i r =>
      unfold runV at e1
      split at e1
      · obtain ⟨q, _, e1⟩ := obind e1
        cases e1
        cases e2
      · cases e1
    | star a r =>
      cases zs with
      | nil => exact absurd hc Bool.false_ne_true
      | cons z zs =>
        cases z <;> first | exact absurd hc Bool.false_ne_true | exact absurd hp Bool.false_ne_true
    | cons a r =>
      cases zs with
      | nil => exact absurd hc Bool.false_ne_true
      | cons z zs =>
        have hc : (chkE C S a [z] none && chkL C S r zs) = true := hc
        rw [Bool.and_eq_true] at hc
        rw [List.all_cons, Bool.and_eq_true] at hp
        obtain ⟨p1, f1, e1⟩ := obind e1
        obtain ⟨q, f2, e1⟩ := obind e1
        cases e1
        unfold getD at e2
        obtain ⟨es', g1, e2⟩ := obind e2
        cases e2
        cases r with
        | nil =>
          cases f2
          cases g1
          cases e3
        | io i r =>
          unfold runV at f2
          split at f2
          · obtain ⟨q, _, f2⟩ := obind f2
            cases f2
            cases g1
          · cases f2
        | star b r =>
          cases zs with
          | nil => exact absurd hc.2 Bool.false_ne_true
          | cons z2 zs => cases z2 <;> first | exact absurd hc.2 Bool.false_ne_true | exact absurd hp.2 Bool.false_ne_true
        | cons b r =>
          cases zs with
          | nil => exact absurd hc.2 Bool.false_ne_true
          | cons z2 zs =>
            have hc2 : (chkE C S b [z2] none && chkL C S r zs) = true := hc.2
            rw [Bool.and_eq_true] at hc2
            rw [List.all_cons, Bool.and_eq_true] at hp
            obtain ⟨p2, f3, f2⟩ := obind f2
            obtain ⟨q2, f4, f2⟩ := obind f2
            cases f2
            unfold getD at g1
            obtain ⟨es2, g2, g1⟩ := obind g1
            cases g1
            unfold pairsD at e3
            obtain ⟨ky, h1, e3⟩ := obind e3
            obtain ⟨l, h2, e3⟩ := obind e3
            cases e3
            refine ⟨G, F, env, p1.1, p1.2, R, f1, fun x H1 F1 R1 E1 d1 => ⟨G, F1, p1.2, p2.1, p2.2, R1, f3, fun y H2 F2 R2 E2 d2 => ?_⟩⟩
            refine ih r zs (by simp only [List.length_cons] at hm; omega) hc2.2 hp.2.2 R2 f4 g2 h2 fun ks H3 F3 R3 E3 q3 => ?_
            have hx := keyV_of d1 h1
            rw [hx]
            exact k ((ky, y) :: ks) H3 F3 R3 (E1.trans (E2.trans E3)) (.cons h1 (dpMono E3.mono _ d2) q3)
theorem f_dicN {es : IL} {ks : List (Option Expr)} {vs : List Expr} {zs : List Expr} {pos : Pos} (hz : kvE ks vs = some zs) (h15 : ks.length ≤ 15) (hc : chkL C S es zs = true) (hp : zs.all plainA = true) (h0 : ks ≠ []) (hl : ks.length = vs.length) (hall : ks.all (·.isSome) = true)
    (pp : PPs X pos ks vs (trsOf X.K Γ C.cons es)) : PE X (.Dict ks vs pos) (rE X.K Γ C.cons (.dic es)) := by
  refine pe_mono (pe_disp pp hall hl h0 h15) fun σ H Q ⟨G, F, env, r, env', R, e, k⟩ p hp0 => ?_
  obtain ⟨q, e1, e⟩ := obind e
  obtain ⟨ds, e2, e⟩ := obind e
  obtain ⟨kvs, e3, e⟩ := obind e
  have e : (if kvs.length ≤ 15 then some (Sl.w (mergeD [] kvs), q.2) else none) = some (r, env') := e
  split at e
  · rename_i hk
    cases e
    have fp : F p = none := R.sub.free hp0
    have no : ¬ Own σ env p := fun z => (R.ownAt z).1 hp0
    obtain ⟨R1, E1⟩ := R.grow (F' := F) (H' := upd H p (.dK [])) (Same.refl _) (fun b o z => by rw [upd_ne (ne_of_none z fp)]; exact R.sub b o z) (same_upd1 hp0) (.upd .dK) (fun b z => .inl z)
    refine pairs_run zs.length es zs (Nat.le_refl _) hc hp R1 e1 e2 e3 fun ks2 H2 F2 R2 E2 q2 => ?_
    have hp2 : H2 p = some (.dK []) := E2.keep p _ upd_same NT.dK no
    refine ⟨hp2, ks2, rfl, by rw [q2.len]; exact hk, ?_⟩
    have fp2 : F2 p = none := by
      cases z : F2 p with
      | none => rfl
      | some o =>
        rcases E2.fresh p (by rw [z]; simp) with y | y | y
        · exact absurd fp y
        · rw [upd_same] at y
          cases y
        · exact absurd y no
    have g0 : G.H0 p = none := by
      cases z : G.H0 p with
      | none => rfl
      | some o => exact absurd hp0 (R.live p (by rw [z]; simp))
    have no2 : ¬ Own σ q.2 p := fun z => no (E2.own p z)
    have R3 := R2.poke (o := .dK (mergeK [] ks2)) g0 fp2 no2 (Da.of hp2 (.inr (.inl ⟨_, rfl⟩))) .dK
    have E12 := E1.trans E2
    refine k _ _ F2 R3 ⟨E12.mono, fun b o h nt nb => ?_, fun b h => ?_, E12.fresh, E12.own, E12.tabs.trans (Tm.upd (Da.of hp2 (.inr (.inl ⟨_, rfl⟩))) .dK)⟩ ⟨p, _, rfl, hp0, fp2, upd_same, q2.merge .nil⟩
    · rw [upd_ne (ne_of_none h hp0)]
      exact E12.keep b o h nt nb
    · by_cases hb : b = p
      · subst hb
        rw [upd_same]
        simp
      · rw [upd_ne hb]
        exact E12.live b h
  · cases e
theorem f_dic0 {pos : Pos} : PE X (.Dict [] [] pos) (rE X.K Γ C.cons (.dic .nil)) := by
  refine pe_mono pe_dnewK fun σ H Q ⟨G, F, env, r, env', R, e, k⟩ p hp0 => ?_
  have e : some (Sl.w [], env) = some (r, env') := e
  cases e
  have fp : F p = none := R.sub.free hp0
  obtain ⟨R1, E1⟩ := R.grow (F' := F) (H' := upd H p (.dK [])) (Same.refl _) (fun b o z => by rw [upd_ne (ne_of_none z fp)]; exact R.sub b o z) (same_upd1 hp0) (.upd .dK) (fun b z => .inl z)
  exact k _ _ F R1 E1 ⟨p, [], rfl, hp0, fp, upd_same, .nil⟩
theorem f_dix (hC : COk X C Γ n) (hS : SOk X S) {i : Nat} {c : IE} {x : Str} {px pos : Pos} {y : Expr} (hx : nmS C S i x = true) (hk : chkE C S c [y] none = true) (pk : PE X y (rH X.K Γ C.cons c)) : PE X (.Subscript (.Name x px) y pos) (rE X.K Γ C.cons (.dix i c)) := by
  have pk2 := chk_plain _ _ _ _ hk
  refine pe_mono (pe_dget (by have := hC.units; omega) (pe_nm (p := px) hC hS hx) pk (by cases y <;> first | exact absurd pk2 Bool.false_ne_true | (intro _ _; rfl))) fun σ H Q ⟨G, F, env, r, env', R, e, k⟩ => ?_
  obtain ⟨k0, e0, e⟩ := obind e
  obtain ⟨p, e1, e⟩ := obind e
  obtain ⟨y, e2, e⟩ := obind e
  obtain ⟨z, e3, e⟩ := obind e
  obtain ⟨kvs, e4, e⟩ := obind e
  obtain ⟨d, e5, e⟩ := obind e
  cases e
  obtain ⟨a, _, g0, _⟩ := dct_of R e0
  refine ⟨.ref a, g0, G, F, env, p.1, p.2, R, e1, fun v H1 F1 R1 E1 q1 => ?_⟩
  obtain ⟨b, ps, g1, rd, q⟩ := dct_of R1 e4
  rw [g0] at g1
  cases g1
  obtain ⟨w, hw, qw⟩ := (look_of q).1 _ e5
  exact ⟨a, w, rfl, .inl ⟨ps, z, rd, key_of (q1.opd R1 e2) e3, hw.symm⟩, k _ _ _ R1 E1 qw⟩
theorem dinR {m : Bool} {i : Nat} {c : IE} {σ : L2.St} {H : Hp} {Q : VK} (h : rE X.K Γ C.cons (.din m i c) σ H Q) :
    rH X.K Γ C.cons c σ H fun y H1 => tVar i σ H1 fun x H2 => ∃ a o, x = .ref a ∧ DGet H2 a y o ∧ Q (.bl (xor m o.isSome)) H2 := by
  obtain ⟨G, F, env, r, env', R, e, k⟩ := h
  obtain ⟨p, e1, e⟩ := obind e
  obtain ⟨y, e2, e⟩ := obind e
  obtain ⟨z, e3, e⟩ := obind e
  obtain ⟨kvs, e4, e⟩ := obind e
  cases e
  refine ⟨G, F, env, p.1, p.2, R, e1, fun v H1 F1 R1 E1 q1 => ?_⟩
  obtain ⟨b, ps, g1, rd, q⟩ := dct_of R1 e4
  refine ⟨.ref b, g1, b, valV ps z, rfl, .inl ⟨ps, z, rd, key_of (q1.opd R1 e2) e3, rfl⟩, ?_⟩
  have hs : (valV ps z).isSome = (dlook kvs z).isSome := by
    have l := look_of (k := z) q
    cases hd : dlook kvs z with
    | none =>
      rw [l.2 hd]
      rfl
    | some d =>
      obtain ⟨w, hw, _⟩ := l.1 d hd
      rw [hw]
      rfl
  rw [hs]
  exact k _ _ _ R1 E1 (.bl _)
theorem din_bool {m : Bool} {i : Nat} {c : IE} : ∀ env r env', runE Γ C.cons (.din m i c) env = some (r, env') → ∃ t, r = .v (.bool t) := fun env r env' e => by
  obtain ⟨p, e1, e⟩ := obind e
  obtain ⟨y, e2, e⟩ := obind e
  obtain ⟨z, e3, e⟩ := obind e
  obtain ⟨kvs, e4, e⟩ := obind e
  cases e
  exact ⟨_, rfl⟩
theorem pc_dinM (hC : COk X C Γ n) (hS : SOk X S) {m : Bool} {i : Nat} {c : IE} {x : Str} {px : Pos} {y : Expr} (hx : nmS C S i x = true) (pk : PE X y (rH X.K Γ C.cons c)) :
    PC X (if m = true then CmpOp.NotIn else CmpOp.In) y (.Name x px) (fun σ H Q => rH X.K Γ C.cons c σ H fun y H1 => tVar i σ H1 fun x H2 => ∃ a o, x = .ref a ∧ DGet H2 a y o ∧ Q (.bl (xor m o.isSome)) H2) := by
  have hu : X.A.units + 1 < cLine := by have := hC.units; omega
  cases m with
  | true =>
    have h := pc_dnotin hu pk (pe_nm (p := px) hC hS hx)
    have e : ∀ b : Bool, xor true b = !b := fun b => by cases b <;> rfl
    simp only [e, if_true]
    exact h
  | false =>
    have h := pc_din hu pk (pe_nm (p := px) hC hS hx)
    have e : ∀ b : Bool, xor false b = b := fun b => by cases b <;> rfl
    simp only [e, Bool.false_eq_true, if_false]
    exact h
theorem f_din (hC : COk X C Γ n) (hS : SOk X S) {m : Bool} {i : Nat} {c : IE} {x : Str} {px pos : Pos} {y : Expr} (hx : nmS C S i x = true) (pk : PE X y (rH X.K Γ C.cons c)) :
    PE X (.Compare y [if m = true then CmpOp.NotIn else CmpOp.In] [.Name x px] pos) (rE X.K Γ C.cons (.din m i c)) :=
  pe_mono (pe_cmp (pc_dinM hC hS hx pk) (plain_marks rfl _)) fun _ _ _ h => dinR h
theorem f_dget (hC : COk X C Γ n) (hS : SOk X S) {i : Nat} {c d : IE} {x : Str} {px ap cp : Pos} {y z : Expr} (hx : nmS C S i x = true) (hl : (ap.endLine == cp.line) = true) (hk : plainA y = true) (hd : plainA z = true) (pk : PE X y (rH X.K Γ C.cons c)) (pd : PE X z (rE X.K Γ C.cons d)) :
    PE X (.Call (.Attribute (.Name x px) "get" ap) [y, z] [] cp) (rE X.K Γ C.cons (.dget i c d)) := by
  have tr : backTo cp (starEach [y, z] X.env) = [(false, eval y X.env), (false, eval z X.env)] := by
    rw [plain_star hk, plain_star hd]
    rfl
  refine pe_mono (pe_dget2 (by have := hC.units; omega) (pe_nm (p := px) hC hS hx) pk pd ⟨rfl, by rw [tr]; rfl, hl, tr⟩) fun σ H Q ⟨G, F, env, r, env', R, e, k⟩ => ?_
  obtain ⟨k0, e0, e⟩ := obind e
  obtain ⟨p, e1, e⟩ := obind e
  obtain ⟨q, e2, e⟩ := obind e
  obtain ⟨y, e3, e⟩ := obind e
  obtain ⟨z, e4, e⟩ := obind e
  obtain ⟨kvs, e5, e⟩ := obind e
  cases e
  obtain ⟨a, ps0, g0, rd0, _⟩ := dct_of R e0
  refine ⟨.ref a, g0, a, rfl, .inl ⟨ps0, rd0⟩, G, F, env, p.1, p.2, R, e1, fun v H1 F1 R1 E1 q1 => ⟨G, F1, p.2, q.1, q.2, R1, e2, fun w H2 F2 R2 E2 q2 => ?_⟩⟩
  obtain ⟨F3, R3, E3, q3⟩ := R1.settle R2 E2 q2
  obtain ⟨b, ps, g1, rd, qd⟩ := dct_of R3 e5
  rw [g0] at g1
  cases g1
  refine ⟨valV ps z, .inl ⟨ps, z, rd, key_of ((q1.mono E3.mono).opd R3 e3) e4, rfl⟩, k _ _ _ R3 (E1.trans E3) ?_⟩
  have l := look_of (k := z) qd
  cases hd : dlook kvs z with
  | none =>
    rw [l.2 hd]
    exact q3
  | some d =>
    obtain ⟨u, hu, qu⟩ := l.1 d hd
    rw [hu]
    exact qu
theorem f_bits {a : IE} {x : Str} {px ap cp : Pos} (hl : (ap.endLine == cp.line) = true) (pa : PE X (.Name x px) (rH X.K Γ C.cons a)) : PE X (.Call (.Attribute (.Name x px) "bit_length" ap) [] [] cp) (rE X.K Γ C.cons (.bits a)) := by
  refine pe_mono (pe_bits pa rfl hl) fun σ H Q ⟨G, F, env, r, env', R, e, k⟩ => ?_
  obtain ⟨p, e1, e⟩ := obind e
  obtain ⟨d, e2, e⟩ := obind e
  obtain ⟨z, e3, e⟩ := obind e
  cases e
  refine ⟨G, F, env, p.1, p.2, R, e1, fun v H1 F1 R1 E1 q1 => ?_⟩
  cases d <;> first | cases e3 | skip
  cases opd_int (q1.opd R1 e2)
  exact ⟨_, rfl, k _ _ _ R1 E1 (.int _)⟩
end
end PF

/-! PF9e: a dict walked by its keys (locked while it is walked); dict comprehensions. -/
namespace PF
open PySem PySem.Spec PyProof.Rows L2
/-! ### a dict locked -/
def plO : HO → Prop
  | .lst _ => True
  | .tup _ => True
  | .dK _ => True
  | _ => False
/-- what is read stays so, locked or not -/
def Tr (F F' : Hp) : Prop := ∀ p o, plO o → Rd F p o → Rd F' p o
section
variable {K : PySem.W.Frag}
theorem Tr.rdl {F F' : Hp} (t : Tr F F') {p : Addr} {vs : List V} (h : RdL K F p vs) : RdL K F' p vs := h.imp_left (t p _ trivial)
theorem Tr.sqt {F F' : Hp} (t : Tr F F') {p : Addr} {vs : List V} (h : SqT K F p vs) : SqT K F' p vs := h.imp_left (t p _ trivial)
mutual
theorem dqTr {F F' : Hp} (t : Tr F F') : ∀ (d : PyData) {v : V}, Dq K F v d → Dq K F' v d
  | .none, _, h => by
    cases h
    exact .non
  | .bool b, _, h => by
    cases h
    exact .bl b
  | .int i, _, h => by
    cases h
    exact .int i
  | .str x, _, h => by
    cases h
    exact .str x
  | .list ds, _, h => by
    cases h with
    | lst h1 h2 => exact .lst (t.rdl h1) (dqAllTr t ds h2)
  | .tuple ds, _, h => by
    cases h with
    | tup h1 h2 => exact .tup (t.sqt h1) (dqAllTr t ds h2)
  | .dict es, _, h => by
    cases h with
    | dct h1 h2 => exact .dct (t _ _ trivial h1) (dqKVTr t es h2)
    | fnc h1 => exact .fnc h1
theorem dqAllTr {F F' : Hp} (t : Tr F F') : ∀ (ds : List PyData) {vs : List V}, DqAll K F vs ds → DqAll K F' vs ds
  | [], _, h => by
    cases h
    exact .nil
  | d :: ds, _, h => by
    cases h with
    | cons h1 h2 => exact .cons (dqTr t d h1) (dqAllTr t ds h2)
theorem dqKVTr {F F' : Hp} (t : Tr F F') : ∀ (es : List (PyData × PyData)) {ps : List (L2.Key × V)}, DqKV K F ps es → DqKV K F' ps es
  | [], _, h => by
    cases h
    exact .nil
  | (_, e) :: es, _, h => by
    cases h with
    | cons h0 h1 h2 => exact .cons h0 (dqTr t e h1) (dqKVTr t es h2)
end
theorem ObR.tr {F F' : Hp} (m : Tr F F') {u : HO} {c : Ob} (h : ObR K F u c) : ObR K F' u c := by
  cases c with
  | l ds =>
    cases u with
    | lst vs => exact dqAllTr m ds h
    | _ => exact False.elim h
  | d kvs =>
    cases u with
    | dK vs => exact dqKVTr m kvs h
    | _ => exact False.elim h
theorem tr_lock {F : Hp} {d : Addr} {od : Obj} {ps : List (L2.Key × V)} (hF : F d = some (.dK ps)) : Tr F (upd F d (.frz od (.dK ps))) := fun p o _ h => by
  by_cases hp : p = d
  · subst hp
    rcases h with h | ⟨u, h⟩
    · rw [hF] at h
      cases h
      exact .inr ⟨od, upd_same⟩
    · rw [hF] at h
      cases h
  · rcases h with h | ⟨u, h⟩
    · exact .inl (by rw [upd_ne hp]; exact h)
    · exact .inr ⟨u, by rw [upd_ne hp]; exact h⟩
theorem tr_unlock {F : Hp} {d : Addr} {od : Obj} {ps : List (L2.Key × V)} (hF : F d = some (.frz od (.dK ps))) : Tr F (upd F d (.dK ps)) := fun p o hpl h => by
  by_cases hp : p = d
  · subst hp
    rcases h with h | ⟨u, h⟩
    · rw [hF] at h
      cases h
      exact hpl.elim
    · rw [hF] at h
      cases h
      exact .inl upd_same
  · rcases h with h | ⟨u, h⟩
    · exact .inl (by rw [upd_ne hp]; exact h)
    · exact .inr ⟨u, by rw [upd_ne hp]; exact h⟩
def lkH (d : Addr) (x : HO) (M : Hp) : Hp := fun b => if b = d then (if (M d).isSome = true then some x else none) else M b
def lkG (d : Addr) (x : HO) (G : Gh) : Gh := ⟨lkH d x G.H0, lkH d x G.F0, G.B⟩
theorem lkH_ne {d b : Addr} {x : HO} {M : Hp} (h : b ≠ d) : lkH d x M b = M b := if_neg h
theorem lkH_some {d : Addr} {x y : HO} {M : Hp} (h : lkH d x M d = some y) : y = x ∧ M d ≠ none := by
  unfold lkH at h
  rw [if_pos rfl] at h
  split at h
  · rename_i hs
    cases h
    exact ⟨rfl, fun z => by rw [z] at hs; cases hs⟩
  · cases h
theorem lkH_none {d b : Addr} {x : HO} {M : Hp} : lkH d x M b = none ↔ M b = none := by
  unfold lkH
  by_cases hb : b = d
  · subst hb
    rw [if_pos rfl]
    cases h : M b with
    | none => simp
    | some o => simp
  · rw [if_neg hb]
theorem Tm.unlk {d : Addr} {od : Obj} {u : HO} {M : Hp} : ∀ P q, TN K P q → LamX.TabS (lkH d (.frz od u) M) P q → LamX.TabS M P q := fun P q _ ⟨ps, h1, h2, h3⟩ => by
  have n1 : P ≠ d := by
    rintro rfl
    obtain ⟨z, _⟩ := lkH_some h1
    cases z
  refine ⟨ps, (lkH_ne n1).symm.trans h1, h2, fun pos cv hc => ?_⟩
  obtain ⟨c, e1, e2⟩ := h3 pos cv hc
  refine ⟨c, e1, ?_⟩
  have n2 : c ≠ d := by
    rintro rfl
    obtain ⟨z, _⟩ := lkH_some e2
    unfold LamX.CodeO at z
    cases z
  exact (lkH_ne n2).symm.trans e2
section
variable {G : Gh} {σ : L2.St} {H F : Hp} {env : En}
theorem Rel.lock (R : Rel K G σ H F env) {d : Addr} {ps : List (L2.Key × V)} {od : Obj} (hF : F d = some (.dK ps)) : Rel K (lkG d (.frz od (.dK ps)) G) σ (upd H d (.frz od (.dK ps))) (upd F d (.frz od (.dK ps))) env := by
  have t := tr_lock (od := od) hF
  have nd : ∀ p, F p = none → p ≠ d := fun p h z => by
    rw [z, hF] at h
    cases h
  refine ⟨R.len, fun b o e => ?_, fun b o e => ?_, fun b o e nt n => ?_, fun b h => ?_, fun b h => ?_, fun i z h => ?_, fun i s c h hm => ?_, R.apart, ⟨fun P q n z => (Tm.upd (Da.of (R.sub _ _ hF) (.inr (.inl ⟨_, rfl⟩))) NL.fdK).1 P q n (R.tabs.1 P q n (Tm.unlk P q n z)), fun b x vs e => ?_⟩, ⟨(R.ent.tm (Tm.upd (Da.of (R.sub _ _ hF) (.inr (.inl ⟨_, rfl⟩))))).1, fun P q z => ⟨lkH_none.mpr (R.ent.2 P q z).1, fun y => (R.ent.2 P q z).2 (lkH_none.mp y)⟩⟩⟩
  · by_cases hb : b = d
    · subst hb
      rw [upd_same] at e ⊢
      exact e
    · rw [upd_ne hb] at e ⊢
      exact R.sub b o e
  · by_cases hb : b = d
    · subst hb
      rw [(lkH_some e).1, upd_same]
    · rw [upd_ne hb]
      exact R.base b o ((lkH_ne hb).symm.trans e)
  · by_cases hb : b = d
    · subst hb
      rw [(lkH_some e).1, upd_same]
    · rw [upd_ne hb]
      exact R.fro b o ((lkH_ne hb).symm.trans e) nt n
  · by_cases hb : b = d
    · subst hb
      rw [upd_same]
      simp
    · rw [upd_ne hb]
      exact R.live b fun z => h (lkH_none.mpr z)
  · have h2 : F b ≠ none := by
      by_cases hb : b = d
      · rw [hb, hF]
        simp
      · rw [upd_ne hb] at h
        exact h
    rcases R.new b h2 with z | z
    · exact .inl fun y => z (lkH_none.mp y)
    · exact .inr (lkH_none.mpr z)
  · obtain ⟨v, a, q⟩ := R.val i z h
    exact ⟨v, a, dqTr t z q⟩
  · obtain ⟨p, u, a, f, hp, q, b1, b2⟩ := R.mug i s c h hm
    have hn := nd p f
    exact ⟨p, u, a, by rw [upd_ne hn]; exact f, by rw [upd_ne hn]; exact hp, q.tr t, fun z => lkH_none.mpr (b1 z), b2⟩
  · by_cases hb : b = d
    · subst hb
      rw [upd_same] at e
      cases e
    · rw [upd_ne hb] at e
      exact (lkH_ne hb).trans (R.tabs.2 b x vs e)
theorem Rel.unlock (R0 : Rel K G σ H F env) {d : Addr} {ps : List (L2.Key × V)} {od : Obj} (hF : F d = some (.dK ps)) {σ' : L2.St} {H' F' : Hp} {env' : En} (R : Rel K (lkG d (.frz od (.dK ps)) G) σ' H' F' env') (hF' : F' d = some (.frz od (.dK ps))) (tx : Tm K (upd H d (.frz od (.dK ps))) H') :
    Rel K G σ' (upd H' d (.dK ps)) (upd F' d (.dK ps)) env' := by
  have t := tr_unlock hF'
  have nd : ∀ p, F' p = none → p ≠ d := fun p h z => by
    rw [z, hF'] at h
    cases h
  refine ⟨R.len, fun b o e => ?_, fun b o e => ?_, fun b o e nt n => ?_, fun b h => ?_, fun b h => ?_, fun i z h => ?_, fun i s c h hm => ?_, R.apart, ((R0.tabs.trans (Tm.upd (Da.of (R0.sub _ _ hF) (.inr (.inl ⟨_, rfl⟩))))).trans tx).trans (Tm.upd (Da.of (R.sub _ _ hF') (.inr (.inr ⟨_, _, rfl⟩)))), ⟨(R.ent.tm (Tm.upd (Da.of (R.sub _ _ hF') (.inr (.inr ⟨_, _, rfl⟩))))).1, R0.ent.2⟩⟩
  · by_cases hb : b = d
    · subst hb
      rw [upd_same] at e ⊢
      exact e
    · rw [upd_ne hb] at e ⊢
      exact R.sub b o e
  · by_cases hb : b = d
    · subst hb
      rw [R0.base b o e] at hF
      cases hF
      exact upd_same
    · rw [upd_ne hb]
      exact R.base b o ((lkH_ne hb).trans e)
  · by_cases hb : b = d
    · subst hb
      have h1 := R0.fro b o e nt n
      rw [R0.sub b _ hF] at h1
      cases h1
      exact upd_same
    · rw [upd_ne hb]
      exact R.fro b o ((lkH_ne hb).trans e) nt n
  · by_cases hb : b = d
    · subst hb
      rw [upd_same]
      simp
    · rw [upd_ne hb]
      exact R.live b fun z => h (lkH_none.mp z)
  · have h2 : F' b ≠ none := by
      by_cases hb : b = d
      · rw [hb, hF']
        simp
      · rw [upd_ne hb] at h
        exact h
    rcases R.new b h2 with z | z
    · exact .inl fun y => z (lkH_none.mpr y)
    · exact .inr (lkH_none.mp z)
  · obtain ⟨v, a, q⟩ := R.val i z h
    exact ⟨v, a, dqTr t z q⟩
  · obtain ⟨p, u, a, f, hp, q, b1, b2⟩ := R.mug i s c h hm
    have hn := nd p f
    exact ⟨p, u, a, by rw [upd_ne hn]; exact f, by rw [upd_ne hn]; exact hp, q.tr t, fun z => lkH_none.mp (b1 z), b2⟩
theorem Ext.unlock (R0 : Rel K G σ H F env) {d : Addr} {ps : List (L2.Key × V)} {od : Obj} (hF : F d = some (.dK ps)) {H' F' : Hp} {env' : En} (E : Ext K σ env (upd H d (.frz od (.dK ps))) (upd F d (.frz od (.dK ps))) H' F' env') (hH' : H' d = some (.frz od (.dK ps))) :
    Ext K σ env H F (upd H' d (.dK ps)) (upd F' d (.dK ps)) env' := by
  refine ⟨fun b o e => ?_, fun b o e nt n => ?_, fun b h => ?_, fun b h => ?_, E.own, ((Tm.upd (Da.of (R0.sub _ _ hF) (.inr (.inl ⟨_, rfl⟩)))).trans E.tabs).trans (Tm.upd (Da.of hH' (.inr (.inr ⟨_, _, rfl⟩))))⟩
  · by_cases hb : b = d
    · subst hb
      rw [hF] at e
      cases e
      exact upd_same
    · rw [upd_ne hb]
      exact E.mono b o (by rw [upd_ne hb]; exact e)
  · by_cases hb : b = d
    · subst hb
      rw [R0.sub b _ hF] at e
      cases e
      exact upd_same
    · rw [upd_ne hb]
      exact E.keep b o (by rw [upd_ne hb]; exact e) nt n
  · by_cases hb : b = d
    · subst hb
      rw [upd_same]
      simp
    · rw [upd_ne hb]
      exact E.live b (by rw [upd_ne hb]; exact h)
  · by_cases hb : b = d
    · subst hb
      rw [hF]
      simp
    · rw [upd_ne hb] at h
      have := E.fresh b h
      rw [upd_ne hb, upd_ne hb] at this
      exact this
theorem RV.unlock (R0 : Rel K G σ H F env) {d : Addr} {ps : List (L2.Key × V)} {od : Obj} (hF : F d = some (.dK ps)) {H' F' : Hp} (hF' : F' d = some (.frz od (.dK ps))) {v : V} {r : Sl} (q : RV K (upd H d (.frz od (.dK ps))) H' F' v r) :
    RV K H (upd H' d (.dK ps)) (upd F' d (.dK ps)) v r := by
  have t := tr_unlock hF'
  have nd : ∀ p, F' p = none → p ≠ d := fun p h z => by
    rw [z, hF'] at h
    cases h
  cases r with
  | v d => exact dqTr t d q
  | b ds => exact q.elim
  | o ds =>
    obtain ⟨p, vs, rfl, h1, h2, h3, h4⟩ := q
    have hn := nd p h2
    rw [upd_ne hn] at h1
    exact ⟨p, vs, rfl, h1, by rw [upd_ne hn]; exact h2, by rw [upd_ne hn]; exact h3, dqAllTr t _ h4⟩
  | w kvs =>
    obtain ⟨p, vs, rfl, h1, h2, h3, h4⟩ := q
    have hn := nd p h2
    rw [upd_ne hn] at h1
    exact ⟨p, vs, rfl, h1, by rw [upd_ne hn]; exact h2, by rw [upd_ne hn]; exact h3, dqKVTr t _ h4⟩
theorem walkD_keys {d : Addr} {o : Obj} {ps : List (L2.Key × V)} {kvs : List (PyData × PyData)} (h : F d = some (.frz o (.dK ps))) (q : DqKV K F ps kvs) : WalkD K F (Itk d o ps) (kvs.map (·.1)) := by
  refine ⟨fun H => H d = some (.frz o (.dK ps)), fun i H x H' => H' = H ∧ ∃ k v, ps[i]? = some (k, v) ∧ x = kV k, ?_, fun H s => s _ _ h, fun i H x H' F1 hi y m s => ?_⟩
  · rw [List.length_map, ← q.len]
    exact walk_keys
  · obtain ⟨rfl, k, v, e, rfl⟩ := y
    obtain ⟨z, e2, q2⟩ := dpAll_get' (v := kV k) (kv_keys q) (by rw [List.getElem?_map, e]; rfl)
    exact ⟨F1, Same.refl _, s, Same.refl _, .refl _, fun _ z => .inl z, z, e2, dpMono m z q2⟩
end
theorem pe_or {X : Cx} {e : Expr} {t u : TE} (h : PE X e t) (h2 : PE X e u) : PE X e (fun σ H Q => t σ H Q ∨ u σ H Q) := ⟨fun pins s σ H Q I q => by
  rcases q with q | q
  · exact h.run pins s σ H Q I q
  · exact h2.run pins s σ H Q I q⟩
section
variable {X : Cx} {C : Cfg} {S : Sc} {Γ : Tab} {n : Nat} {tg : Expr}
theorem keysAt_of {env : En} {i : Nat} {ds : List PyData} (h : keysAt env i = some ds) : ∃ kvs, env.at i = some (.v (.dict kvs)) ∧ ds = kvs.map (·.1) ∧ fnQ kvs = false := by
  unfold keysAt at h
  split at h
  · split at h
    · cases h
    rename_i hq
    cases h
    exact ⟨_, by assumption, rfl, by simpa using hq⟩
  · cases h
theorem lcdR {own : List (Str × Nat)} {i : Nat} {g : IG} {c : IT} {e : IE} (hsl : ∀ i ∈ slotsG g, i ∈ ixs own) {σ : L2.St} {H : Hp} {Q : VK} (h : rE X.K Γ C.cons (.lcd own i g c e) σ H Q) :
    tLc (iKeys (tVar i)) (rG X.K g) (rT X.K Γ C.cons c) (rE X.K Γ C.cons e) (own.map (·.2)) σ H Q ∨ tLockE (tLc (iKeys (tVar i)) (rG X.K g) (rT X.K Γ C.cons c) (rE X.K Γ C.cons e) (own.map (·.2))) σ H Q := by
  obtain ⟨G, F, env, r, env', R, ev, k⟩ := h
  obtain ⟨ds, e1, ev⟩ := obind ev
  obtain ⟨hn, ev⟩ := oite ev
  obtain ⟨q, e2, ev⟩ := obind ev
  obtain ⟨hz, ev⟩ := oite ev
  cases ev
  obtain ⟨kvs, ea, rfl, hq⟩ := keysAt_of e1
  obtain ⟨v, av, qv⟩ := R.val i _ ea
  have key : ∀ (G' : Gh) (H1 F1 : Hp) (d : Addr) (o : Obj) (ps : List (L2.Key × V)) (Q' : VK), v = .ref d → Rel X.K G' σ H1 F1 env → F1 d = some (.frz o (.dK ps)) → DqKV X.K F1 ps kvs →
      (∀ v H' F', Rel X.K G' σ H' F' (backE env q.2 own) → Ext X.K σ env H1 F1 H' F' (backE env q.2 own) → RV X.K H1 H' F' v (.o q.1) → Q' v H') →
      tLc (iKeys (tVar i)) (rG X.K g) (rT X.K Γ C.cons c) (rE X.K Γ C.cons e) (own.map (·.2)) σ H1 Q' := fun G' H1 F1 d o ps Q' ed R1 hd qd k' => by
    subst ed
    refine ⟨.ref d, av, d, o, rfl, .inl ⟨ps, R1.sub _ _ hd, fun D hD => ?_⟩⟩
    obtain ⟨Gd, Y, wk, wG, wY⟩ := (walkD_keys hd qd).ex
    exact lc_fin (T := lcTurn Γ C.cons own g c e) (Cd := fun _ => True) hsl R1 hn hz wk (fun d en r h => ⟨trivial, h⟩) trivial (fun H2 F2 e2 R2 m _ => wG H2 (m.trans R2.sub)) (fun i H x H' F2 e2 hi y R2 m _ => wY i H x H' F2 hi y m R2.sub) e2 k' D hD
  cases qv with
  | fnc _ => cases hq
  | @dct d ps _ rd qd =>
    rcases rd with hd | ⟨o, hd⟩
    · refine .inr ⟨d, .dK ps, R.sub _ _ hd, trivial, fun od => ?_⟩
      refine key (lkG d (.frz od (.dK ps)) G) _ _ d od ps _ rfl (R.lock hd) upd_same (dqKVTr (tr_lock hd) _ qd) fun v H' F' R' E' q' => ?_
      have hF' : F' d = some (.frz od (.dK ps)) := E'.mono _ _ upd_same
      exact ⟨R'.sub _ _ hF', k v _ _ (R.unlock hd R' hF' E'.tabs) (Ext.unlock R hd E' (R'.sub _ _ hF')) (RV.unlock R hd hF' q')⟩
    · exact .inl (key G H F d o ps Q rfl R hd qd k)
end
/-! ### dict comprehensions -/
theorem dc_it {J : It} {n : Nat} {G : Hp → Prop} {Y : Nat → Hp → V → Hp → Prop} (w : Walk J n G Y) {g : TG} {tt : TT} {tk tv : TE} {vs : List Nat} {σ : L2.St} {H1 : Hp} {D : Addr} {Qd : Hp → Prop} (Pv : Nat → Hp → Prop) (h0 : Pv 0 (upd H1 D (.dK []))) (hG : ∀ i H, i ≤ n → Pv i H → G H)
    (hs : ∀ i x H H', i < n → Pv i H → Y i H x H' → g x (wipe σ vs) H' fun σ2 H2 => wipe σ2 vs = wipe σ vs ∧ tt σ2 H2 fun b H3 =>
      if b = true then tk σ2 H3 fun y H4 => tv σ2 H4 fun z H5 => ∃ kvs k, y = kV k ∧ H5 D = some (.dK kvs) ∧ kvs.length < sizeLine ∧ Pv (i + 1) (upd H5 D (.dK (putK kvs k z))) else Pv (i + 1) H3) (hd : ∀ H, Pv n H → Qd H) :
    ∃ W : Nat → Nat → Hp → Prop, (∃ m, W 0 m (upd H1 D (.dK []))) ∧ ∀ i m H, W i m H →
      (J.stop i H ∧ Qd H) ∨ (J.go i H ∧ ∃ Nx : Hp → Prop, (∀ H', Nx H' → ∃ m', m' < m ∧ W (i + 1) m' H') ∧ ∀ x H', J.yld i H x H' → g x (wipe σ vs) H' fun σ2 H2 => wipe σ2 vs = wipe σ vs ∧ tt σ2 H2 fun b H3 =>
        if b = true then tk σ2 H3 fun y H4 => tv σ2 H4 fun z H5 => ∃ kvs k, y = kV k ∧ H5 D = some (.dK kvs) ∧ kvs.length < sizeLine ∧ Nx (upd H5 D (.dK (putK kvs k z))) else Nx H3) := by
  refine ⟨fun i m H => m = n - i ∧ i ≤ n ∧ Pv i H, ⟨n, by simp, Nat.zero_le _, h0⟩, ?_⟩
  rintro i m H ⟨rfl, hi, p⟩
  have q := hG i H hi p
  by_cases hlt : i < n
  · exact .inr ⟨w.goes i H hlt q, Pv (i + 1), fun H' p' => ⟨n - (i + 1), by omega, rfl, hlt, p'⟩, fun x H' y => hs i x H H' hlt p (w.yields i H x H' hlt q y)⟩
  · have e : i = n := by omega
    subst e
    exact .inl ⟨w.stops H q, hd H p⟩
def dcTurn (Γ : Tab) (cons : List (Str × PyData)) (own : List (Str × Nat)) (g : IG) (c : IT) (k e : IE) : PyData → En → Option (Option PyData × En) := fun d en => (runG g d en).bind fun en1 => (runT Γ cons c en1).bind fun t =>
  if t.1 = true then (runE Γ cons k t.2).bind fun x => (runE Γ cons e x.2).bind fun y => (keyD x.1.d).bind fun _ => some (some (.tuple [x.1.d, y.1.d]), wipeE y.2 own) else some (none, wipeE t.2 own)
theorem prsD_app : ∀ {xs ys : List PyData} {ks ls : List (PyData × PyData)}, prsD xs = some ks → prsD ys = some ls → prsD (xs ++ ys) = some (ks ++ ls)
  | [], _, _, _, h, h' => by
    cases h
    exact h'
  | .tuple [a, b] :: r, ys, ks, ls, h, h' => by
    unfold prsD at h
    obtain ⟨k, e1, h⟩ := Option.bind_eq_some_iff.mp h
    obtain ⟨l, e2, h⟩ := Option.bind_eq_some_iff.mp h
    cases h
    rw [List.cons_append]
    unfold prsD
    rw [e1, prsD_app e2 h']
    rfl
  | .tuple [] :: r, _, _, _, e, _ => by cases e
  | .tuple [_] :: r, _, _, _, e, _ => by cases e
  | .tuple (_ :: _ :: _ :: _) :: r, _, _, _, e, _ => by cases e
  | .none :: r, _, _, _, e, _ => by cases e
  | .bool _ :: r, _, _, _, e, _ => by cases e
  | .int _ :: r, _, _, _, e, _ => by cases e
  | .str _ :: r, _, _, _, e, _ => by cases e
  | .list _ :: r, _, _, _, e, _ => by cases e
  | .dict _ :: r, _, _, _, e, _ => by cases e
theorem mergeD_snoc {ks kvs : List (PyData × PyData)} {a b : PyData} {ky : L2.Key} (h : keyD a = some ky) : mergeD ks (kvs ++ [(a, b)]) = dput (mergeD ks kvs) a ky b := by
  unfold mergeD
  rw [List.foldl_append]
  show (match keyD a with
    | some k => dput _ a k b
    | none => _) = _
  rw [h]
section
variable {X : Cx} {C : Cfg} {S : Sc} {Γ : Tab} {n : Nat} {tg : Expr}
theorem dcR {own : List (Str × Nat)} {g : IG} {it : II} {c : IT} {ke e : IE} (hsl : ∀ i ∈ slotsG g, i ∈ ixs own) {σ : L2.St} {H : Hp} {Q : VK} (h : rE X.K Γ C.cons (.dcm own g it c ke e) σ H Q) :
    tDc (rI X.K Γ C.cons it) (rG X.K g) (rT X.K Γ C.cons c) (rE X.K Γ C.cons ke) (rE X.K Γ C.cons e) (own.map (·.2)) σ H Q := by
  obtain ⟨G, F, env, r, env', R, ev, k⟩ := h
  obtain ⟨p, e1, ev⟩ := obind ev
  obtain ⟨hn, ev⟩ := oite ev
  obtain ⟨q, e2, ev⟩ := obind ev
  obtain ⟨hz, ev⟩ := oite ev
  obtain ⟨kq, e3, ev⟩ := obind ev
  cases ev
  refine ⟨G, F, env, p.1, p.2, R, e1, fun J H1 F1 R1 E1 wd D hD => ?_⟩
  obtain ⟨Gd, Y, wk, wG, wY⟩ := wd.ex
  have e2 : compD (dcTurn Γ C.cons own g c ke e) p.1 (wipeE p.2 own) = some q := e2
  revert e2 hn R1 E1 k
  generalize p.2 = p2
  intro hn k R1 E1 e2
  revert wY wk e2
  generalize p.1 = ds
  intro wk wY e2
  have hF1 : F1 D = none := R1.sub.free hD
  have hG0 : G.H0 D = none := by
    cases z : G.H0 D with
    | none => rfl
    | some o => exact absurd hD (R1.live D (by rw [z]; simp))
  have noD : ¬ Own σ p2 D := fun z => (R1.ownAt z).1 hD
  obtain ⟨RW, OW⟩ := R1.wiped own
  refine dc_it wk (fun i H2 => ∃ F2 e2 acc ds2 kv2 rest, Rel X.K G (wipe σ (ixs own)) H2 F2 e2 ∧ Wx X.K (Own σ p2) H1 F1 H2 F2 ∧ (∀ b, Own (wipe σ (ixs own)) e2 b → Own σ p2 b) ∧ H2 D = some (.dK acc) ∧ F2 D = none ∧ prsD ds2 = some kv2 ∧ DqKV X.K F2 acc (mergeD [] kv2) ∧ acc.length ≤ ds2.length ∧
    compD (dcTurn Γ C.cons own g c ke e) (ds.drop i) e2 = some (rest, q.2) ∧ ds2 ++ rest = q.1) ?_ ?_ ?_ ?_
  · exact ⟨F1, wipeE p2 own, [], [], [], q.1, RW.poke hG0 hF1 (fun z => noD (OW D z)) (Da.no hD), Wx.refl.poke hD (Da.no hD), OW, upd_same, hF1, rfl, .nil, Nat.le_refl _, e2, rfl⟩
  · rintro i H2 hi0 ⟨F2, e2, acc, ds2, kv2, rest, R2, w2, _⟩
    exact wG H2 (w2.mono.trans R2.sub)
  · rintro i x H2 H3 hi ⟨F2, en, acc, ds2, kv2, rest, R2, w2, ow2, hacc, hF2, hprs, qacc, hlen, hc, happ⟩ y
    obtain ⟨F3, m1, m2, m3, nf, fr, d, hd, qd⟩ := wY i H2 x H3 F2 hi y w2.mono R2.sub
    obtain ⟨R3, E3⟩ := R2.grow m1 m2 m3 nf fr
    have hdr : ds.drop i = d :: ds.drop (i + 1) := by
      rw [List.drop_eq_getElem_cons hi]
      rw [List.getElem?_eq_getElem hi] at hd
      cases hd
      rfl
    rw [hdr] at hc
    obtain ⟨t, ht, hc⟩ := obind hc
    obtain ⟨u, hu, hc⟩ := obind hc
    obtain ⟨en1, eg, ht⟩ := obind ht
    obtain ⟨b, eb, ht⟩ := obind ht
    have noD2 : ¬ Own (wipe σ (ixs own)) en D := fun z => noD (ow2 D z)
    have hD3 : H3 D = some (.dK acc) := m3 D _ hacc
    have hF3 : F3 D = none := by
      cases z : F3 D with
      | none => rfl
      | some o =>
        rcases fr D (by rw [z]; simp) with z2 | z2
        · exact absurd hF2 z2
        · rw [hacc] at z2
          cases z2
    refine ⟨G, F3, en, d, en1, R3, qd, eg, fun σ2 R4 l1 l2 l3 => ?_⟩
    have hwipe : wipe σ2 (ixs own) = wipe σ (ixs own) := by
      rw [wipe_eq l1 fun j hj => l2 j fun z => hj (hsl j z)]
      exact wipe_wipe σ (ixs own)
    refine ⟨hwipe, G, F3, en1, b.1, b.2, R4, eb, fun H5 F5 R5 E5 => ?_⟩
    have ow4 : ∀ a, Own σ2 en1 a → Own σ p2 a := fun a z => ow2 a (l3 a z)
    have w5 : Wx X.K (Own σ p2) H1 F1 H5 F5 := (w2.trans (E3.wx ow2)).trans (E5.wx ow4)
    have ow5 : ∀ a, Own σ2 b.2 a → Own σ p2 a := fun a z => ow4 a (E5.own a z)
    -- the new dict stays where no name owns it
    have kD : ∀ {Ha Fa Hb Fb : Hp} {ea eb : En}, Ext X.K σ2 ea Ha Fa Hb Fb eb → (∀ a, Own σ2 ea a → Own σ p2 a) → Ha D = some (.dK acc) → Fa D = none → Hb D = some (.dK acc) ∧ Fb D = none := fun {Ha Fa Hb Fb ea eb} Ex ow ha fa => by
      refine ⟨Ex.keep D _ ha NT.dK fun z => noD (ow D z), ?_⟩
      cases z : Fb D with
      | none => rfl
      | some o =>
        rcases Ex.fresh D (by rw [z]; simp) with z2 | z2 | z2
        · exact absurd fa z2
        · rw [ha] at z2
          cases z2
        · exact absurd (ow D z2) noD
    obtain ⟨hD5, hF5⟩ := kD E5 ow4 hD3 hF3
    cases hb : b.1 with
    | true =>
      rw [if_pos hb] at ht
      obtain ⟨xk, exk, ht⟩ := obind ht
      obtain ⟨y2, ey, ht⟩ := obind ht
      obtain ⟨ky, eky, ht⟩ := obind ht
      cases ht
      have hc : some (.tuple [xk.1.d, y2.1.d] :: u.1, u.2) = some (rest, q.2) := hc
      have hq := Prod.mk.inj (Option.some.inj hc)
      have h1 : .tuple [xk.1.d, y2.1.d] :: u.1 = rest := hq.1
      have h2 : u.2 = q.2 := hq.2
      subst h1
      refine iteT ⟨G, F5, b.2, xk.1, xk.2, R5, exk, fun v H6 F6 R6 E6 q6 => ?_⟩
      obtain ⟨F7, R7, E7, q7⟩ := R5.settle R6 E6 q6
      obtain ⟨hD6, hF7⟩ := kD E7 ow5 hD5 hF5
      have ow7 : ∀ a, Own σ2 xk.2 a → Own σ p2 a := fun a z => ow5 a (E7.own a z)
      refine ⟨G, F7, xk.2, y2.1, y2.2, R7, ey, fun v2 H8 F8 R8' E8 q8 => ?_⟩
      obtain ⟨F9, R9, E9, q9⟩ := R7.settle R8' E8 q8
      obtain ⟨hD8, hF9⟩ := kD E9 ow7 hD6 hF7
      obtain ⟨R8, O8⟩ := R9.wiped own
      rw [hwipe] at R8 O8
      have ow8 : ∀ a, Own (wipe σ (ixs own)) (wipeE y2.2 own) a → Own σ p2 a := fun a z => ow7 a (E9.own a (O8 a z))
      have w8 : Wx X.K (Own σ p2) H1 F1 H8 F9 := (w5.trans (E7.wx ow5)).trans (E9.wx ow7)
      have qacc7 : DqKV X.K F9 acc (mergeD [] kv2) := dpKVMono (m1.trans (E5.mono.trans (E7.mono.trans E9.mono))) _ qacc
      have hl2 : acc.length < sizeLine := by
        have := congrArg List.length happ
        rw [List.length_append, List.length_cons] at this
        omega
      refine ⟨acc, ky, keyV_of q7 eky, hD8, hl2, F9, wipeE y2.2 own, putK acc ky v2, ds2 ++ [.tuple [xk.1.d, y2.1.d]], kv2 ++ [(xk.1.d, y2.1.d)], u.1, R8.poke hG0 hF9 (fun z => noD (ow8 D z)) (Da.of hD8 (.inr (.inl ⟨_, rfl⟩))), w8.poke hD (Da.of hD8 (.inr (.inl ⟨_, rfl⟩))), ow8, upd_same, hF9, prsD_app hprs ?_, ?_, ?_, by rw [← h2]; exact hu, ?_⟩
      · unfold prsD prsD
        rw [eky]
        rfl
      · rw [mergeD_snoc eky]
        exact qacc7.put eky q9
      · have := length_putK acc ky v2
        rw [List.length_append, List.length_singleton]
        omega
      · rw [List.append_assoc]
        exact happ
    | false =>
      rw [if_neg (by rw [hb]; exact Bool.false_ne_true)] at ht
      cases ht
      cases hc
      obtain ⟨R8, O8⟩ := R5.wiped own
      rw [hwipe] at R8 O8
      exact iteF ⟨F5, wipeE b.2 own, acc, ds2, kv2, rest, R8, w5, fun a z => ow5 a (O8 a z), hD5, hF5, hprs, dpKVMono (m1.trans E5.mono) _ qacc, hlen, hu, happ⟩
  · rintro H2 ⟨F2, en, acc, ds2, kv2, rest, R2, w2, ow2, hacc, hF2, hprs, qacc, _, hc, happ⟩
    rw [List.drop_length] at hc
    cases hc
    rw [List.append_nil] at happ
    subst happ
    rw [hprs] at e3
    cases e3
    obtain ⟨Rb, Ob⟩ := R1.back hn R2 w2.mono
    refine k (.ref D) H2 F2 Rb (E1.trans ⟨w2.mono, w2.keep, w2.live, w2.fresh, fun b z => ow2 b (Ob b z), w2.tabs⟩) ⟨D, acc, rfl, ?_, hF2, hacc, qacc⟩
    cases z : H D with
    | none => rfl
    | some o => exact absurd hD (E1.live D (by rw [z]; simp))
end
end
end PF

set_option maxHeartbeats 4000000
/-! PF10: the soundness of expressions. -/
namespace PF
open PySem PySem.Spec PyProof.Rows L2
section
variable {X : Cx} {C : Cfg} {S : Sc} {Γ : Tab} {n : Nat}
theorem t_e {a : IE} {z : Expr} (ha : PE X z (rH X.K Γ C.cons a)) (ht : tstA z = true) : PT X z (rT X.K Γ C.cons (.e a)) :=
  pt_mono (pt_truth ha (plain_tst ht _)) fun σ H Q ⟨G, F, env, b, env', R, e, k⟩ => by
    obtain ⟨p, e1, e⟩ := obind e
    obtain ⟨d, e2, e⟩ := obind e
    obtain ⟨t, e3, e⟩ := obind e
    cases e
    exact ⟨G, F, env, p.1, p.2, R, e1, fun v H1 F1 R1 E1 q1 => ⟨_, opd_tru R1.sub (q1.opd R1 e2) e3, k H1 F1 R1 E1⟩⟩
/-- a test whose value is a truth -/
theorem t_bool {a : IE} (hb : ∀ env r env', runE Γ C.cons a env = some (r, env') → ∃ b, r = .v (.bool b)) (hx : ∀ (r : RE) (env : En), hd a r env = r.bind fun p => some (.d p.1.d, p.2)) {σ : L2.St} {H : Hp} {Q : Bool → Hp → Prop} (h : rT X.K Γ C.cons (.e a) σ H Q) :
    rE X.K Γ C.cons a σ H fun x H' => ∃ k, x = .bl k ∧ Q k H' := by
  obtain ⟨G, F, env, b, env', R, e, k⟩ := h
  obtain ⟨p, e1, e⟩ := obind e
  obtain ⟨d, e2, e⟩ := obind e
  obtain ⟨t, e3, e⟩ := obind e
  cases e
  rw [hx] at e1
  obtain ⟨q, e4, e1⟩ := obind e1
  cases e1
  obtain ⟨b', eb⟩ := hb env q.1 q.2 e4
  refine ⟨G, F, env, q.1, q.2, R, e4, fun v H1 F1 R1 E1 q1 => ?_⟩
  cases e2
  rw [eb] at q1 e3
  cases e3
  cases q1
  exact ⟨_, rfl, k H1 F1 R1 E1⟩
theorem cmp_bool {op : CmpOp} {a b : IE} : ∀ env r env', runE Γ C.cons (.cmp op a b) env = some (r, env') → ∃ t, r = .v (.bool t) := fun env r env' e => by
  obtain ⟨p, e1, e⟩ := obind e
  obtain ⟨q, e2, e⟩ := obind e
  obtain ⟨x, e3, e⟩ := obind e
  obtain ⟨y, e4, e⟩ := obind e
  obtain ⟨z, e5, e⟩ := obind e
  cases e
  exact ⟨_, rfl⟩
theorem ch_bool {op op' : CmpOp} {a b c : IE} : ∀ env r env', runE Γ C.cons (.ch op op' a b c) env = some (r, env') → ∃ t, r = .v (.bool t) := fun env r env' e => by
  obtain ⟨p, e1, e⟩ := obind e
  obtain ⟨q, e2, e⟩ := obind e
  obtain ⟨x, e3, e⟩ := obind e
  obtain ⟨y, e4, e⟩ := obind e
  obtain ⟨z, e5, e⟩ := obind e
  split at e
  · obtain ⟨w3, e6, e⟩ := obind e
    obtain ⟨y', e7, e⟩ := obind e
    obtain ⟨z', e8, e⟩ := obind e
    obtain ⟨r', e9, e⟩ := obind e
    cases e
    exact ⟨_, rfl⟩
  · cases e
    exact ⟨_, rfl⟩
theorem t_cmp (hC : COk X C Γ n) {op : CmpOp} {a b : IE} {x y : Expr} {pos : Pos} (ha : PE X x (rH X.K Γ C.cons a)) (hb : PE X y (rH X.K Γ C.cons b)) (py : plainA y = true) : PT X (.Compare x [op] [y] pos) (rT X.K Γ C.cons (.e (.cmp op a b))) :=
  pt_mono (pt_cmpR (op_cmp hC.units op) ha hb (plain_marks py op)) fun _ _ _ h => f_cmpR (t_bool cmp_bool (fun _ _ => rfl) h)
theorem t_ch (hC : COk X C Γ n) {op op' : CmpOp} {a b c : IE} {x y z : Expr} {pos : Pos} (ha : PE X x (rH X.K Γ C.cons a)) (hb : PE X y (rH X.K Γ C.cons b)) (hc : PE X z (rH X.K Γ C.cons c)) (pz : plainA z = true) :
    PT X (.Compare x [op, op'] [y, z] pos) (rT X.K Γ C.cons (.e (.ch op op' a b c))) :=
  pt_mono (pt_chain (op_cmp hC.units op) (op_cmp hC.units op') ha hb hc (marks2 pz)) fun _ _ _ h => f_chR (t_bool ch_bool (fun _ _ => rfl) h)
theorem t_not {a : IT} {x : Expr} {pos : Pos} (ha : PT X x (rT X.K Γ C.cons a)) : PT X (.UnaryOp .Not x pos) (rT X.K Γ C.cons (.not a)) :=
  pt_mono (pt_not ha) fun σ H Q ⟨G, F, env, b, env', R, e, k⟩ => by
    obtain ⟨p, e1, e⟩ := obind e
    cases e
    exact ⟨G, F, env, p.1, p.2, R, e1, fun H1 F1 R1 E1 => k H1 F1 R1 E1⟩
theorem t_and {a b : IT} {x y : Expr} {r : List Expr} {pos : Pos} (ha : PT X x (rT X.K Γ C.cons a)) (hb : PW X (.BoolOp .And (y :: r) pos) (rT X.K Γ C.cons b)) : PW X (.BoolOp .And (x :: y :: r) pos) (rT X.K Γ C.cons (.and a b)) :=
  pw_mono (pw_and ha hb) fun σ H Q ⟨G, F, env, t, env', R, e, k⟩ => by
    obtain ⟨p, e1, e⟩ := obind e
    refine ⟨G, F, env, p.1, p.2, R, e1, fun H1 F1 R1 E1 => ?_⟩
    cases hb : p.1 with
    | true =>
      rw [if_pos hb] at e
      exact iteT ⟨G, F1, p.2, t, env', R1, e, fun H2 F2 R2 E2 => k H2 F2 R2 (E1.trans E2)⟩
    | false =>
      rw [if_neg (by rw [hb]; exact Bool.false_ne_true)] at e
      cases e
      exact iteF (k H1 F1 R1 E1)
theorem t_or {a b : IT} {x y : Expr} {r : List Expr} {pos : Pos} (ha : PT X x (rT X.K Γ C.cons a)) (hb : PW X (.BoolOp .Or (y :: r) pos) (rT X.K Γ C.cons b)) : PW X (.BoolOp .Or (x :: y :: r) pos) (rT X.K Γ C.cons (.or a b)) :=
  pw_mono (pw_or ha hb) fun σ H Q ⟨G, F, env, t, env', R, e, k⟩ => by
    obtain ⟨p, e1, e⟩ := obind e
    refine ⟨G, F, env, p.1, p.2, R, e1, fun H1 F1 R1 E1 => ?_⟩
    cases hb : p.1 with
    | true =>
      rw [if_pos hb] at e
      cases e
      exact iteT (k H1 F1 R1 E1)
    | false =>
      rw [if_neg (by rw [hb]; exact Bool.false_ne_true)] at e
      exact iteF ⟨G, F1, p.2, t, env', R1, e, fun H2 F2 R2 E2 => k H2 F2 R2 (E1.trans E2)⟩
theorem pts_mono {l : List Expr} {t t' : TT} (h : PTs X l t) (f : ∀ σ H Q, t' σ H Q → t σ H Q) : PTs X l t' := ⟨fun pins s σ H Q I q => h.run pins s σ H Q I (f σ H Q q)⟩
theorem ts_yes : PTs X [] (rT X.K Γ C.cons .yes) := pts_mono pts_nil fun σ H Q ⟨G, F, env, b, env', R, e, k⟩ => by
  cases e
  exact k H F R Ext.refl
theorem COk.blk (h : COk X C Γ n) (s : Shared) (H : Hp) (scope : Scope) (cenv : Env) (fp : List Addr) : COk (X.blk s H scope cenv fp) C Γ n :=
  ⟨h.calm, h.N, h.nd, h.room, h.guards, h.blt, h.cons, h.fns⟩
theorem SOk.blk (h : SOk X S) (s : Shared) (H : Hp) (scope : Scope) (cl : List (Str × Addr)) (A : Addr) (fp : List Addr) :
    SOk (X.blk s H scope (compEnvC scope cl A X.env) fp) ⟨relS scope S.sc, fun x => scope.names.lookup x == some .cell⟩ := by
  refine ⟨?_, fun x h => h⟩
  show relabel scope X.env = relS scope S.sc
  rw [← h.sc]
  rfl
def Both (X : Cx) (t : TE) (l : List Expr) (k : Option BoolOp) : Prop := (∀ z, l = [z] → PE X z t) ∧ ∀ op pos, k = some op → l ≠ [] → PE X (.BoolOp op l pos) t
theorem both1 {t : TE} {z : Expr} {k : Option BoolOp} (h : PE X z t) : Both X t [z] k := ⟨fun z' e => by
  cases e
  exact h, fun op pos _ _ => pe_one h⟩
def BothT (X : Cx) (t : TT) (l : List Expr) (k : Option BoolOp) : Prop := (∀ z, l = [z] → PT X z t) ∧ ∀ op pos, k = some op → l ≠ [] → PW X (.BoolOp op l pos) t
theorem bothT1 {t : TT} {z : Expr} {k : Option BoolOp} (h : PT X z t) : BothT X t [z] k := ⟨fun z' e => by
  cases e
  exact h, fun op pos _ _ => by
    cases op with
    | And => exact pw_and1 h
    | Or => exact pw_or1 h⟩
theorem tgs_in {g : IG} {own : List (Str × Nat)} (h : (slotsG g).all (fun i => own.any fun p => decide (p.2 = i)) = true) : ∀ i ∈ slotsG g, i ∈ ixs own := fun i hi => by
  have := List.all_eq_true.mp h i hi
  obtain ⟨p, hp, e⟩ := List.any_eq_true.mp this
  exact List.mem_map.mpr ⟨p, hp, of_decide_eq_true e⟩
theorem chkI_plain (it : II) {tg z : Expr} (h : chkI C S it tg z = true) : plainA z = true := by
  cases it with
  | e a => exact chk_plain _ _ _ _ h
  | _ =>
    cases z <;> first
      | rfl
      | exact absurd h Bool.false_ne_true
theorem chkI_folded (it : II) {tg z : Expr} (h : chkI C S it tg z = true) (env : Env) (x : Value) : foldedSetIterable z env x = pure x := plain_folded (chkI_plain it h) env x
theorem chkL_nil {es : IL} (h : chkL C S es [] = true) : es = .nil := by
  cases es with
  | nil => rfl
  | _ => exact absurd h Bool.false_ne_true
end
theorem and3 {a b c : Bool} (h : (a && b && c) = true) : a = true ∧ b = true ∧ c = true := by
  rw [Bool.and_eq_true, Bool.and_eq_true] at h
  exact ⟨h.1.1, h.1.2, h.2⟩
theorem and2 {a b : Bool} (h : (a && b) = true) : a = true ∧ b = true := by
  rw [Bool.and_eq_true] at h
  exact h
theorem t_din (hC : COk X C Γ n) (hS : SOk X S) {m : Bool} {i : Nat} {c : IE} {x : Str} {px pos : Pos} {y : Expr} (hx : nmS C S i x = true) (pk : PE X y (rH X.K Γ C.cons c)) :
    PT X (.Compare y [if m = true then CmpOp.NotIn else CmpOp.In] [.Name x px] pos) (rT X.K Γ C.cons (.e (.din m i c))) :=
  pt_mono (pt_cmp (pc_dinM hC hS hx pk) (plain_marks rfl _)) fun _ _ _ h => dinR (t_bool din_bool (fun _ _ => rfl) h)
theorem kvE_cons {ks : List (Option Expr)} {vs : List Expr} {z : Expr} {zs : List Expr} (h : kvE ks vs = some (z :: zs)) : ∃ k v ks' vs' zs', ks = some k :: ks' ∧ vs = v :: vs' ∧ z :: zs = k :: v :: zs' ∧ kvE ks' vs' = some zs' := by
  unfold kvE at h
  split at h
  · cases h
  · rename_i k ks v vs
    cases e : kvE ks vs with
    | none =>
      rw [e] at h
      cases h
    | some r =>
      rw [e] at h
      exact ⟨k, v, ks, vs, r, rfl, rfl, (Option.some.inj h).symm, e⟩
  · cases h
theorem kvE_nil {ks : List (Option Expr)} {vs : List Expr} (h : kvE ks vs = some []) : ks = [] ∧ vs = [] := by
  unfold kvE at h
  split at h
  · exact ⟨rfl, rfl⟩
  · rename_i k ks v vs
    cases e : kvE ks vs with
    | none =>
      rw [e] at h
      cases h
    | some r =>
      rw [e] at h
      cases h
  · cases h
theorem kvE_len : ∀ {ks : List (Option Expr)} {vs : List Expr} {zs : List Expr}, kvE ks vs = some zs → ks.length = vs.length
  | ks, vs, [], h => by
    obtain ⟨rfl, rfl⟩ := kvE_nil h
    rfl
  | ks, vs, [z], h => by
    obtain ⟨k, v, ks', vs', zs', rfl, rfl, e, h'⟩ := kvE_cons h
    cases e
  | ks, vs, z :: z2 :: zs, h => by
    obtain ⟨k, v, ks', vs', zs', rfl, rfl, e, h'⟩ := kvE_cons h
    cases e
    rw [List.length_cons, List.length_cons, kvE_len h']
theorem kvE_all : ∀ {ks : List (Option Expr)} {vs : List Expr} {zs : List Expr}, kvE ks vs = some zs → ks.all (·.isSome) = true
  | ks, vs, [], h => by
    obtain ⟨rfl, rfl⟩ := kvE_nil h
    rfl
  | ks, vs, [z], h => by
    obtain ⟨k, v, ks', vs', zs', rfl, rfl, e, h'⟩ := kvE_cons h
    cases e
  | ks, vs, z :: z2 :: zs, h => by
    obtain ⟨k, v, ks', vs', zs', rfl, rfl, e, h'⟩ := kvE_cons h
    cases e
    rw [List.all_cons, kvE_all h']
    rfl
mutual
theorem sE {C : Cfg} {Γ : Tab} {n : Nat} : ∀ (e : IE) {X : Cx} {S : Sc} (hC : COk X C Γ n) (hS : SOk X S) (l : List Expr) (k : Option BoolOp), chkE C S e l k = true → Both X (rE X.K Γ C.cons e) l k
  | .k d, X, S, hC, hS, l, k, h => by
    unfold chkE at h
    split at h
    · exact both1 (f_k h)
    · cases h
  | .g x, X, S, hC, hS, l, k, h => by
    unfold chkE at h
    split at h
    · obtain ⟨h1, h2, h3⟩ := and3 h
      cases of_decide_eq_true h1
      exact both1 (f_g hC hS h2 h3)
    · cases h
  | .x i, X, S, hC, hS, l, k, h => by
    unfold chkE at h
    split at h
    · exact both1 (f_x hC hS h)
    · cases h
  | .bin op a b, X, S, hC, hS, l, k, h => by
    unfold chkE at h
    split at h
    · obtain ⟨h1, h2, h3⟩ := and3 h
      cases of_decide_eq_true h1
      exact both1 (f_bin hC (h_of hC hS h2 ((sE a hC hS _ _ h2).1 _ rfl)) (h_of hC hS h3 ((sE b hC hS _ _ h3).1 _ rfl)))
    · cases h
  | .neg a, X, S, hC, hS, l, k, h => by
    unfold chkE at h
    split at h
    · exact both1 (f_neg (h_of hC hS h ((sE a hC hS _ _ h).1 _ rfl)))
    · cases h
  | .not a, X, S, hC, hS, l, k, h => by
    unfold chkE at h
    split at h
    · exact both1 (f_not (h_of hC hS h ((sE a hC hS _ _ h).1 _ rfl)))
    · cases h
  | .and a b, X, S, hC, hS, l, k, h => by
    unfold chkE at h
    split at h
    · obtain ⟨h2, h3⟩ := and2 h
      exact both1 (f_and ((sE a hC hS _ _ h2).1 _ rfl) ((sE b hC hS _ _ h3).2 _ _ rfl (by simp)))
    · obtain ⟨h2, h3⟩ := and2 h
      refine ⟨fun z e => by simp at e, fun op pos e _ => ?_⟩
      cases e
      exact f_and ((sE a hC hS _ _ h2).1 _ rfl) ((sE b hC hS _ _ h3).2 _ _ rfl (by simp))
    · cases h
  | .or a b, X, S, hC, hS, l, k, h => by
    unfold chkE at h
    split at h
    · obtain ⟨h2, h3⟩ := and2 h
      exact both1 (f_or ((sE a hC hS _ _ h2).1 _ rfl) ((sE b hC hS _ _ h3).2 _ _ rfl (by simp)))
    · obtain ⟨h2, h3⟩ := and2 h
      refine ⟨fun z e => by simp at e, fun op pos e _ => ?_⟩
      cases e
      exact f_or ((sE a hC hS _ _ h2).1 _ rfl) ((sE b hC hS _ _ h3).2 _ _ rfl (by simp))
    · cases h
  | .cmp op a b, X, S, hC, hS, l, k, h => by
    unfold chkE at h
    split at h
    · obtain ⟨h1, h2, h3⟩ := and3 h
      cases of_decide_eq_true h1
      exact both1 (f_cmp hC (h_of hC hS h2 ((sE a hC hS _ _ h2).1 _ rfl)) (h_of hC hS h3 ((sE b hC hS _ _ h3).1 _ rfl)) (chk_plain _ _ _ _ h3))
    · cases h
  | .ch op op' a b c, X, S, hC, hS, l, k, h => by
    unfold chkE at h
    split at h
    · obtain ⟨h, h5⟩ := and2 h
      obtain ⟨h, h4⟩ := and2 h
      obtain ⟨h1, h2, h3⟩ := and3 h
      cases of_decide_eq_true h1
      cases of_decide_eq_true h2
      exact both1 (f_ch hC (h_of hC hS h3 ((sE a hC hS _ _ h3).1 _ rfl)) (h_of hC hS h4 ((sE b hC hS _ _ h4).1 _ rfl)) (h_of hC hS h5 ((sE c hC hS _ _ h5).1 _ rfl)) (chk_plain _ _ _ _ h5))
    · cases h
  | .ife t a b, X, S, hC, hS, l, k, h => by
    unfold chkE at h
    split at h
    · obtain ⟨h1, h2, h3⟩ := and3 h
      exact both1 (f_ife ((sT t hC hS _ _ h1).1 _ rfl) ((sE a hC hS _ _ h2).1 _ rfl) ((sE b hC hS _ _ h3).1 _ rfl))
    · cases h
  | .ix a b, X, S, hC, hS, l, k, h => by
    unfold chkE at h
    split at h
    · obtain ⟨h2, h3⟩ := and2 h
      exact both1 (f_ix (h_of hC hS h2 ((sE a hC hS _ _ h2).1 _ rfl)) (h_of hC hS h3 ((sE b hC hS _ _ h3).1 _ rfl)) (chk_plain _ _ _ _ h3))
    · cases h
  | .sl a lo hi, X, S, hC, hS, l, k, h => by
    unfold chkE at h
    split at h
    · obtain ⟨h1, h2, h3⟩ := and3 h
      exact both1 (f_sl (h_of hC hS h1 ((sE a hC hS _ _ h1).1 _ rfl)) (sO lo hC hS _ h2) (sO hi hC hS _ h3))
    · cases h
  | .rv a, X, S, hC, hS, l, k, h => by
    unfold chkE at h
    split at h
    · exact both1 (f_rv (h_of hC hS h ((sE a hC hS _ _ h).1 _ rfl)))
    · cases h
  | .tup es, X, S, hC, hS, l, k, h => by
    unfold chkE at h
    split at h
    · exact both1 (f_tup (sV es hC hS _ h))
    · cases h
  | .lst es, X, S, hC, hS, l, k, h => by
    unfold chkE at h
    split at h
    · exact both1 (f_lst (sV es hC hS _ h))
    · cases h
  | .fn f es, X, S, hC, hS, l, k, h => by
    unfold chkE at h
    split at h
    · obtain ⟨h, h4⟩ := and2 h
      obtain ⟨h1, h2, h3⟩ := and3 h
      exact both1 (f_fn hC hS (of_decide_eq_true h1) h2 (sL es hC hS _ h3 h4) h4)
    · cases h
  | .isi a t, X, S, hC, hS, l, k, h => by
    unfold chkE at h
    split at h
    · obtain ⟨h, h6⟩ := and2 h
      obtain ⟨h, h5⟩ := and2 h
      obtain ⟨h, h4⟩ := and2 h
      obtain ⟨h1, h2, h3⟩ := and3 h
      exact both1 (f_isi hC hS (of_decide_eq_true h1) h2 (h_of hC hS h3 ((sE a hC hS _ _ h3).1 _ rfl)) (chk_plain _ _ _ _ h3) (of_decide_eq_true h4) h5 h6)
    · cases h
  | .call f es, X, S, hC, hS, l, k, h => by
    unfold chkE at h
    split at h
    · obtain ⟨h, h5⟩ := and2 h
      obtain ⟨h, h4⟩ := and2 h
      obtain ⟨h1, h2, h3⟩ := and3 h
      refine both1 (f_call hC hS (of_decide_eq_true h1) h2 h3 (sV es hC hS _ h4) h5 fun z => ?_)
      rw [z] at h4
      exact chkL_nil h4
    · cases h
  | .act i f x es, X, S, hC, hS, l, k, h => by
    unfold chkE at h
    split at h
    · obtain ⟨h, h4⟩ := and2 h
      obtain ⟨h1, h2, h3⟩ := and3 h
      exact both1 (f_act hC hS h1 (of_decide_eq_true h2) (sV es hC hS _ h3) h4)
    · cases h
  | .lc own g it c e, X, S, hC, hS, l, k, h => by
    unfold chkE at h
    split at h
    · rename_i elt tg iter ifs as scope pos
      obtain ⟨h, h7⟩ := and2 h
      obtain ⟨h, h6⟩ := and2 h
      obtain ⟨h, h5⟩ := and2 h
      obtain ⟨h, h4⟩ := and2 h
      obtain ⟨h1, h2, h3⟩ := and3 h
      cases of_decide_eq_true h1
      have pi := sI it hC hS _ _ h2
      refine both1 (pe_mono (pe_lc hC.calm hC.nd pi (blkOk_by (own := own) (by rw [hS.sc, hC.N]; exact h3)) (fun s H A cl fp => sG (hC.blk s H scope _ fp) (hS.blk s H scope cl A fp) g _ h4) (fun s H A cl fp => ?_)
        (fun s H A cl fp => (sE e (hC.blk s H scope _ fp) (hS.blk s H scope cl A fp) _ _ h7).1 _ rfl) (fun x => chkI_folded it h2 X.env x)) fun σ H Q h => lcR (tgs_in h5) h)
      split at h6
      · split at h6
        · exact ts_yes
        · cases h6
      · exact pts_one ((sT c (hC.blk s H scope _ fp) (hS.blk s H scope cl A fp) _ _ h6).1 _ rfl)
      · cases h6
    · cases h
  | .lcl own i g c e, X, S, hC, hS, l, k, h => by
    unfold chkE at h
    split at h
    · rename_i elt tg x px ifs as scope pos
      obtain ⟨h, h7⟩ := and2 h
      obtain ⟨h, h6⟩ := and2 h
      obtain ⟨h, h5⟩ := and2 h
      obtain ⟨h, h4⟩ := and2 h
      obtain ⟨h1, h2, h3⟩ := and3 h
      cases of_decide_eq_true h1
      have pi : PI X tg (.Name x px) (iList X.K (tVar i)) := pi_list (pe_nm hC hS h2)
      refine both1 (pe_mono (pe_lc hC.calm hC.nd pi (blkOk_by (own := own) (by rw [hS.sc, hC.N]; exact h3)) (fun s H A cl fp => sG (hC.blk s H scope _ fp) (hS.blk s H scope cl A fp) g _ h4) (fun s H A cl fp => ?_)
        (fun s H A cl fp => (sE e (hC.blk s H scope _ fp) (hS.blk s H scope cl A fp) _ _ h7).1 _ rfl) (fun x => rfl)) fun σ H Q h => lclR (tgs_in h5) h)
      split at h6
      · split at h6
        · exact ts_yes
        · cases h6
      · exact pts_one ((sT c (hC.blk s H scope _ fp) (hS.blk s H scope cl A fp) _ _ h6).1 _ rfl)
      · cases h6
    · cases h
  | .lcd own i g c e, X, S, hC, hS, l, k, h => by
    unfold chkE at h
    split at h
    · rename_i elt tg x px ifs as scope pos
      obtain ⟨h, h7⟩ := and2 h
      obtain ⟨h, h6⟩ := and2 h
      obtain ⟨h, h5⟩ := and2 h
      obtain ⟨h, h4⟩ := and2 h
      obtain ⟨h1, h2, h3⟩ := and3 h
      cases of_decide_eq_true h1
      have pi : PI X tg (.Name x px) (iKeys (tVar i)) := pi_keys (pe_nm hC hS h2)
      have hb := pe_lc (te := rE X.K Γ C.cons e) (tt := rT X.K Γ C.cons c) (g := rG X.K g) (ifs := ifs) (elt := elt) (pos := pos) hC.calm hC.nd pi (blkOk_by (own := own) (by rw [hS.sc, hC.N]; exact h3)) (fun s H A cl fp => sG (hC.blk s H scope _ fp) (hS.blk s H scope cl A fp) g _ h4) (fun s H A cl fp => by
          split at h6
          · split at h6
            · exact ts_yes
            · cases h6
          · exact pts_one ((sT c (hC.blk s H scope _ fp) (hS.blk s H scope cl A fp) _ _ h6).1 _ rfl)
          · cases h6)
        (fun s H A cl fp => (sE e (hC.blk s H scope _ fp) (hS.blk s H scope cl A fp) _ _ h7).1 _ rfl) (fun x => rfl)
      exact both1 (pe_mono (pe_or hb (pe_lock hb)) fun σ H Q h => lcdR (tgs_in h5) h)
    · cases h
  | .dcm own g it c ke e, X, S, hC, hS, l, k, h => by
    unfold chkE at h
    split at h
    · rename_i key elt tg iter ifs as scope pos
      obtain ⟨h, h7⟩ := and2 h
      obtain ⟨h, h8⟩ := and2 h
      obtain ⟨h, h6⟩ := and2 h
      obtain ⟨h, h5⟩ := and2 h
      obtain ⟨h, h4⟩ := and2 h
      obtain ⟨h1, h2, h3⟩ := and3 h
      cases of_decide_eq_true h1
      have pi := sI it hC hS _ _ h2
      refine both1 (pe_mono (pe_dc hC.calm hC.nd pi (blkOk_by (own := own) (by rw [hS.sc, hC.N]; exact h3)) (fun s H A cl fp => sG (hC.blk s H scope _ fp) (hS.blk s H scope cl A fp) g _ h4) (fun s H A cl fp => ?_)
        (fun s H A cl fp => (sE ke (hC.blk s H scope _ fp) (hS.blk s H scope cl A fp) _ _ h8).1 _ rfl) (fun s H A cl fp => (sE e (hC.blk s H scope _ fp) (hS.blk s H scope cl A fp) _ _ h7).1 _ rfl) (fun x => chkI_folded it h2 X.env x)) fun σ H Q h => dcR (tgs_in h5) h)
      split at h6
      · split at h6
        · exact ts_yes
        · cases h6
      · exact pts_one ((sT c (hC.blk s H scope _ fp) (hS.blk s H scope cl A fp) _ _ h6).1 _ rfl)
      · cases h6
    · cases h
  | .lrg a, X, S, hC, hS, l, k, h => by
    unfold chkE at h
    split at h
    · obtain ⟨h, h5⟩ := and2 h
      obtain ⟨h, h4⟩ := and2 h
      obtain ⟨h1, h2, h3⟩ := and3 h
      exact both1 (f_lrg hC hS (of_decide_eq_true h1) h2 (of_decide_eq_true h3) h4 (h_of hC hS h5 ((sE a hC hS _ _ h5).1 _ rfl)) (chk_plain _ _ _ _ h5))
    · cases h
  | .lrg2 a b, X, S, hC, hS, l, k, h => by
    unfold chkE at h
    split at h
    · obtain ⟨h, h6⟩ := and2 h
      obtain ⟨h, h5⟩ := and2 h
      obtain ⟨h, h4⟩ := and2 h
      obtain ⟨h1, h2, h3⟩ := and3 h
      exact both1 (f_lrg2 hC hS (of_decide_eq_true h1) h2 (of_decide_eq_true h3) h4 (h_of hC hS h5 ((sE a hC hS _ _ h5).1 _ rfl)) (chk_plain _ _ _ _ h5) (h_of hC hS h6 ((sE b hC hS _ _ h6).1 _ rfl)) (chk_plain _ _ _ _ h6))
    · cases h
  | .mt m i es, X, S, hC, hS, l, k, h => by
    unfold chkE at h
    split at h
    · obtain ⟨h, h6⟩ := and2 h
      obtain ⟨h, h5⟩ := and2 h
      obtain ⟨h, h4⟩ := and2 h
      obtain ⟨h1, h2, h3⟩ := and3 h
      refine both1 (f_mt hC hS h1 (of_decide_eq_true h2) h3 (sV es hC hS _ h4) h5 (of_decide_eq_true h6) fun z => ?_)
      rw [z] at h4
      exact chkL_nil h4
    · cases h
  | .dic es, X, S, hC, hS, l, k, h => by
    unfold chkE at h
    split at h
    · rename_i ks vs pos
      split at h
      · rename_i zs hz
        obtain ⟨h, h4⟩ := and2 h
        obtain ⟨h1, h2, h3⟩ := and3 h
        by_cases h0 : ks = []
        · subst h0
          cases vs with
          | nil =>
            cases hz
            cases chkL_nil h2
            exact both1 f_dic0
          | cons _ _ => cases hz
        · exact both1 (f_dicN hz (of_decide_eq_true h4) h2 h3 h0 (kvE_len hz) (kvE_all hz) (sP es hC hS ks vs zs pos hz h1 h2))
      · cases h
    · cases h
  | .dget i c d, X, S, hC, hS, l, k, h => by
    unfold chkE at h
    split at h
    · obtain ⟨h, h5⟩ := and2 h
      obtain ⟨h, h4⟩ := and2 h
      obtain ⟨h1, h2, h3⟩ := and3 h
      cases of_decide_eq_true h2
      exact both1 (f_dget hC hS h1 h3 (chk_plain _ _ _ _ h4) (chk_plain _ _ _ _ h5) (h_of hC hS h4 ((sE c hC hS _ _ h4).1 _ rfl)) ((sE d hC hS _ _ h5).1 _ rfl))
    · cases h
  | .dix i c, X, S, hC, hS, l, k, h => by
    unfold chkE at h
    split at h
    · obtain ⟨h1, h2⟩ := and2 h
      exact both1 (f_dix hC hS h1 h2 (h_of hC hS h2 ((sE c hC hS _ _ h2).1 _ rfl)))
    · cases h
  | .din m i c, X, S, hC, hS, l, k, h => by
    unfold chkE at h
    split at h
    · obtain ⟨h1, h2, h3⟩ := and3 h
      cases of_decide_eq_true h1
      exact both1 (f_din hC hS h2 (h_of hC hS h3 ((sE c hC hS _ _ h3).1 _ rfl)))
    · cases h
  | .bits a, X, S, hC, hS, l, k, h => by
    unfold chkE at h
    split at h
    · obtain ⟨h1, h2, h3⟩ := and3 h
      cases of_decide_eq_true h1
      exact both1 (f_bits h2 (h_of hC hS h3 ((sE a hC hS _ _ h3).1 _ rfl)))
    · cases h
theorem sP {C : Cfg} {Γ : Tab} {n : Nat} : ∀ (es : IL) {X : Cx} {S : Sc} (hC : COk X C Γ n) (hS : SOk X S) (ks : List (Option Expr)) (vs zs : List Expr) (pos : Pos), kvE ks vs = some zs → consL es = true → chkL C S es zs = true → PPs X pos ks vs (trsOf X.K Γ C.cons es)
  | .nil, X, S, hC, hS, ks, vs, zs, pos, hz, h0, h => by
    cases zs with
    | cons _ _ => exact absurd h Bool.false_ne_true
    | nil =>
      obtain ⟨rfl, rfl⟩ := kvE_nil hz
      exact pps_nil
  | .star a r, X, S, hC, hS, ks, vs, zs, pos, hz, h0, h => absurd h0 Bool.false_ne_true
  | .io i r, X, S, hC, hS, ks, vs, zs, pos, hz, h0, h => absurd h0 Bool.false_ne_true
  | .cons a (.star b r), X, S, hC, hS, ks, vs, zs, pos, hz, h0, h => absurd h0 Bool.false_ne_true
  | .cons a (.io i r), X, S, hC, hS, ks, vs, zs, pos, hz, h0, h => absurd h0 Bool.false_ne_true
  | .cons a .nil, X, S, hC, hS, ks, vs, zs, pos, hz, h0, h => by
    cases zs with
    | nil => exact absurd h Bool.false_ne_true
    | cons z zs =>
      obtain ⟨k, v, ks', vs', zs', rfl, rfl, e, hz'⟩ := kvE_cons hz
      cases e
      obtain ⟨_, h2⟩ := and2 h
      exact absurd h2 Bool.false_ne_true
  | .cons a (.cons b r), X, S, hC, hS, ks, vs, zs, pos, hz, h0, h => by
    cases zs with
    | nil => exact absurd h Bool.false_ne_true
    | cons z zs =>
      obtain ⟨k, v, ks', vs', zs', rfl, rfl, e, hz'⟩ := kvE_cons hz
      cases e
      obtain ⟨h1, h2⟩ := and2 h
      obtain ⟨h3, h4⟩ := and2 h2
      exact pps_cons (d_of ((sE a hC hS _ _ h1).1 _ rfl)) (d_of ((sE b hC hS _ _ h3).1 _ rfl)) (sP r hC hS ks' vs' zs' pos hz' h0 h4)
theorem sT {C : Cfg} {Γ : Tab} {n : Nat} : ∀ (t : IT) {X : Cx} {S : Sc} (hC : COk X C Γ n) (hS : SOk X S) (l : List Expr) (k : Option BoolOp), chkT C S t l k = true → BothT X (rT X.K Γ C.cons t) l k
  | .yes, X, S, hC, hS, l, k, h => absurd h Bool.false_ne_true
  | .e a, X, S, hC, hS, l, k, h => by
    unfold chkT at h
    split at h
    · rename_i z
      obtain ⟨h1, h2⟩ := and2 h
      have pz := (sE a hC hS _ _ h1).1 _ rfl
      cases a with
      | cmp op a1 b1 =>
        unfold chkE at h1
        split at h1
        · rename_i e
          cases e
          obtain ⟨g1, g2, g3⟩ := and3 h1
          cases of_decide_eq_true g1
          exact bothT1 (t_cmp hC (h_of hC hS g2 ((sE a1 hC hS _ _ g2).1 _ rfl)) (h_of hC hS g3 ((sE b1 hC hS _ _ g3).1 _ rfl)) (chk_plain _ _ _ _ g3))
        · cases h1
      | ch op op' a1 b1 c1 =>
        unfold chkE at h1
        split at h1
        · rename_i e
          cases e
          obtain ⟨h1, h5⟩ := and2 h1
          obtain ⟨h1, h4⟩ := and2 h1
          obtain ⟨g1, g2, g3⟩ := and3 h1
          cases of_decide_eq_true g1
          cases of_decide_eq_true g2
          exact bothT1 (t_ch hC (h_of hC hS g3 ((sE a1 hC hS _ _ g3).1 _ rfl)) (h_of hC hS h4 ((sE b1 hC hS _ _ h4).1 _ rfl)) (h_of hC hS h5 ((sE c1 hC hS _ _ h5).1 _ rfl)) (chk_plain _ _ _ _ h5))
        · cases h1
      | din m i c1 =>
        unfold chkE at h1
        split at h1
        · rename_i e
          cases e
          obtain ⟨g1, g2, g3⟩ := and3 h1
          cases of_decide_eq_true g1
          exact bothT1 (t_din hC hS g2 (h_of hC hS g3 ((sE c1 hC hS _ _ g3).1 _ rfl)))
        · cases h1
      | _ =>
        rw [Bool.or_eq_true] at h2
        rcases h2 with h2 | h2
        · exact bothT1 (t_e (h_of hC hS h1 pz) h2)
        · exact absurd h2 Bool.false_ne_true
    · cases h
  | .not a, X, S, hC, hS, l, k, h => by
    unfold chkT at h
    split at h
    · exact bothT1 (t_not ((sT a hC hS _ _ h).1 _ rfl))
    · cases h
  | .and a b, X, S, hC, hS, l, k, h => by
    unfold chkT at h
    split at h
    · obtain ⟨h2, h3⟩ := and2 h
      exact bothT1 (t_and ((sT a hC hS _ _ h2).1 _ rfl) ((sT b hC hS _ _ h3).2 _ _ rfl (by simp))).pt
    · obtain ⟨h2, h3⟩ := and2 h
      refine ⟨fun z e => by simp at e, fun op pos e _ => ?_⟩
      cases e
      exact t_and ((sT a hC hS _ _ h2).1 _ rfl) ((sT b hC hS _ _ h3).2 _ _ rfl (by simp))
    · cases h
  | .or a b, X, S, hC, hS, l, k, h => by
    unfold chkT at h
    split at h
    · obtain ⟨h2, h3⟩ := and2 h
      exact bothT1 (t_or ((sT a hC hS _ _ h2).1 _ rfl) ((sT b hC hS _ _ h3).2 _ _ rfl (by simp))).pt
    · obtain ⟨h2, h3⟩ := and2 h
      refine ⟨fun z e => by simp at e, fun op pos e _ => ?_⟩
      cases e
      exact t_or ((sT a hC hS _ _ h2).1 _ rfl) ((sT b hC hS _ _ h3).2 _ _ rfl (by simp))
    · cases h
  | .ife _ _ _, X, S, hC, hS, l, k, h => absurd h Bool.false_ne_true
theorem sL {C : Cfg} {Γ : Tab} {n : Nat} : ∀ (es : IL) {X : Cx} {S : Sc} (hC : COk X C Γ n) (hS : SOk X S) (l : List Expr), chkL C S es l = true → l.all plainA = true → PA X l (rL X.K Γ C.cons es)
  | .nil, X, S, hC, hS, l, h, hp => by
    cases l with
    | nil => exact l_nil
    | cons _ _ => exact absurd h Bool.false_ne_true
  | .cons a r, X, S, hC, hS, l, h, hp => by
    cases l with
    | nil => exact absurd h Bool.false_ne_true
    | cons z zs =>
      obtain ⟨h1, h2⟩ := and2 h
      rw [List.all_cons] at hp
      exact l_cons (h_of hC hS h1 ((sE a hC hS _ _ h1).1 _ rfl)) (sL r hC hS _ h2 (and2 hp).2) (and2 hp).1
  | .star a r, X, S, hC, hS, l, h, hp => ⟨fun pos pins s σ H Q I ⟨G, F, env, hs, env', R, e, k⟩ => by cases e⟩
  | .io i r, X, S, hC, hS, l, h, hp => ⟨fun pos pins s σ H Q I ⟨G, F, env, hs, env', R, e, k⟩ => by cases e⟩
theorem sV {C : Cfg} {Γ : Tab} {n : Nat} : ∀ (es : IL) {X : Cx} {S : Sc} (hC : COk X C Γ n) (hS : SOk X S) (l : List Expr), chkL C S es l = true → PA X l (rV X.K Γ C.cons es)
  | .nil, X, S, hC, hS, l, h => by
    cases l with
    | nil => exact v_nil
    | cons _ _ => exact absurd h Bool.false_ne_true
  | .cons a r, X, S, hC, hS, l, h => by
    cases l with
    | nil => exact absurd h Bool.false_ne_true
    | cons z zs =>
      obtain ⟨h1, h2⟩ := and2 h
      exact v_cons ((sE a hC hS _ _ h1).1 _ rfl) (sV r hC hS _ h2) (chk_plain _ _ _ _ h1)
  | .star a r, X, S, hC, hS, l, h => by
    unfold chkL at h
    split at h
    · obtain ⟨h1, h2⟩ := and2 h
      exact v_star ((sE a hC hS _ _ h1).1 _ rfl) (sV r hC hS _ h2)
    · cases h
  | .io i r, X, S, hC, hS, l, h => by
    unfold chkL at h
    split at h
    · obtain ⟨h1, h2⟩ := and2 h
      exact v_io hC hS h1 (sV r hC hS _ h2)
    · cases h
theorem sO {C : Cfg} {Γ : Tab} {n : Nat} : ∀ (o : IO) {X : Cx} {S : Sc} (hC : COk X C Γ n) (hS : SOk X S) (l : Option Expr), chkO C S o l = true → PO X l (rO X.K Γ C.cons o)
  | .no, X, S, hC, hS, l, h => by
    cases l with
    | none => exact o_no
    | some _ => exact absurd h Bool.false_ne_true
  | .so a, X, S, hC, hS, l, h => by
    cases l with
    | none => exact absurd h Bool.false_ne_true
    | some z => exact o_so (h_of hC hS h ((sE a hC hS _ _ h).1 _ rfl))
theorem sI {C : Cfg} {Γ : Tab} {n : Nat} : ∀ (it : II) {X : Cx} {S : Sc} (hC : COk X C Γ n) (hS : SOk X S) (tg z : Expr), chkI C S it tg z = true → PI X tg z (rI X.K Γ C.cons it)
  | .e a, X, S, hC, hS, tg, z, h => i_e ((sE a hC hS _ _ h).1 _ rfl)
  | .r1 a, X, S, hC, hS, tg, z, h => by
    unfold chkI at h
    split at h
    · obtain ⟨h1, h2, h3⟩ := and3 h
      exact i_r1 hC hS (of_decide_eq_true h1) h2 (h_of hC hS h3 ((sE a hC hS _ _ h3).1 _ rfl)) (chk_plain _ _ _ _ h3)
    · cases h
  | .r2 a b, X, S, hC, hS, tg, z, h => by
    unfold chkI at h
    split at h
    · obtain ⟨h, h4⟩ := and2 h
      obtain ⟨h1, h2, h3⟩ := and3 h
      exact i_r2 hC hS (of_decide_eq_true h1) h2 (h_of hC hS h3 ((sE a hC hS _ _ h3).1 _ rfl)) (chk_plain _ _ _ _ h3) (h_of hC hS h4 ((sE b hC hS _ _ h4).1 _ rfl)) (chk_plain _ _ _ _ h4)
    · cases h
  | .rd a b, X, S, hC, hS, tg, z, h => by
    unfold chkI at h
    split at h
    · obtain ⟨h, h4⟩ := and2 h
      obtain ⟨h1, h2, h3⟩ := and3 h
      exact i_rd hC hS (of_decide_eq_true h1) h2 (h_of hC hS h3 ((sE a hC hS _ _ h3).1 _ rfl)) (chk_plain _ _ _ _ h3) (h_of hC hS h4 ((sE b hC hS _ _ h4).1 _ rfl)) (chk_plain _ _ _ _ h4)
    · cases h
  | .zip a b, X, S, hC, hS, tg, z, h => by
    unfold chkI at h
    split at h
    · obtain ⟨h, h5⟩ := and2 h
      obtain ⟨h, h4⟩ := and2 h
      obtain ⟨h1, h2, h3⟩ := and3 h
      exact i_zip hC hS h1 (of_decide_eq_true h2) h3 ((sE a hC hS _ _ h4).1 _ rfl) (chk_plain _ _ _ _ h4) ((sE b hC hS _ _ h5).1 _ rfl) (chk_plain _ _ _ _ h5)
    · cases h
  | .enum a, X, S, hC, hS, tg, z, h => by
    unfold chkI at h
    split at h
    · obtain ⟨h, h4⟩ := and2 h
      obtain ⟨h1, h2, h3⟩ := and3 h
      exact i_enum hC hS h1 (of_decide_eq_true h2) h3 ((sE a hC hS _ _ h4).1 _ rfl) (chk_plain _ _ _ _ h4)
    · cases h
end
end PF

/-! PF11: statements. -/
namespace PF
open PySem PySem.Spec PyProof.Rows L2
/-! ### the check -/
def notComp : Expr → Bool
  | .ListComp .. => false
  | .SetComp .. => false
  | .DictComp .. => false
  | _ => true
def isTup : Expr → Bool
  | .Tuple vs _ _ => !(vs.all (foldedForSure 8))
  | _ => false
def isDC : Expr → Bool
  | .DictComp .. => true
  | _ => false
/-- some of these names is not simply local -/
def cellT (sc : Scope) (es : List Expr) : Bool := es.any fun e => match e with
  | .Name x _ => !(sc.names.lookup x == some .local)
  | _ => false

def chkN (C : Cfg) (S : Sc) : List Nat → List Expr → Bool
  | [], l => l.isEmpty
  | i :: r, l => match l with
    | .Name x _ :: zs => tgS C S i x && chkN C S r zs
    | _ => false
mutual
def chkS (C : Cfg) (S : Sc) : IS → Stmt → Bool
  | .set i e, st => match st with
    | .Assign [.Name x _] v _ => tgS C S i x && chkE C S e [v] none && !isDC v
    | _ => false
  | .tgt gs e, st => match st with
    | .Assign [.Tuple es _ _] v _ => chkGs C S gs es && chkE C S e [v] none && (!isTup v || (decide (4 ≤ es.length) || cellT S.sc es))
    | _ => false
  | .par2 i j a b, st => match st with
    | .Assign [.Tuple [.Name x px, .Name y py] _ _] (.Tuple [u, v] _ _) _ => decide (C.N[i]? = some x) && decide (C.N[j]? = some y) && decide (S.sc.names.lookup x = some .local) && decide (S.sc.names.lookup y = some .local) && decide (px.line = py.line) &&
        decide (x ≠ y) && !([u, v].all (foldedForSure 8)) && !([u, v].all (constantsAlone 8)) && decide (S.sc.kind = .function) && chkE C S a [u] none && chkE C S b [v] none
    | _ => false
  | .par3 i j l a b c, st => match st with
    | .Assign [.Tuple [.Name x px, .Name y py, .Name z pz] _ _] (.Tuple [u, v, w] _ _) _ => decide (C.N[i]? = some x) && decide (C.N[j]? = some y) && decide (C.N[l]? = some z) && decide (S.sc.names.lookup x = some .local) && decide (S.sc.names.lookup y = some .local) &&
        decide (S.sc.names.lookup z = some .local) && decide (px.line = py.line) && decide (px.line = pz.line) && decide (x ≠ y) && decide (x ≠ z) && decide (y ≠ z) && !([u, v, w].all (foldedForSure 8)) && !([u, v, w].all (constantsAlone 8)) && decide (S.sc.kind = .function) &&
        chkE C S a [u] none && chkE C S b [v] none && chkE C S c [w] none
    | _ => false
  | .parn is es, st => match st with
    | .Assign [.Tuple ts _ _] (.Tuple vs _ _) _ => chkN C S is ts && chkL C S es vs && decide (vs.length ≤ 1000) && (decide (4 ≤ ts.length) || cellT S.sc ts)
    | _ => false
  | .six i k e, st => match st with
    | .Assign [.Subscript (.Name x _) kx _] v _ => nmS C S i x && chkE C S k [kx] none && chkE C S e [v] none
    | _ => false
  | .aug i op e, st => match st with
    | .AugAssign (.Name x _) o v _ => tgS C S i x && decide (op = o) && chkE C S e [v] none
    | _ => false
  | .aix i k op e, st => match st with
    | .AugAssign (.Subscript (.Name x _) kx _) o v _ => nmS C S i x && chkE C S k [kx] none && decide (op = o) && chkE C S e [v] none
    | _ => false
  | .ret e, st => match st with
    | .Return (some v) _ => chkE C S e [v] none
    | _ => false
  | .retx i, st => match st with
    | .Return (some (.Name x _)) _ => nmS C S i x
    | _ => false
  | .retn, st => match st with
    | .Return none _ => true
    | _ => false
  | .ex e, st => match st with
    | .Expr v _ => chkE C S e [v] none && notComp v
    | _ => false
  | .cond t a b, st => match st with
    | .If z x y _ => chkT C S t [z] none && chkB C S a x && chkB C S b y
    | _ => false
  | .for g it b _, st => match st with
    | .For tg iter body [] _ => chkI C S it tg iter && chkG C S g tg && chkB C S b body
    | _ => false
  | .wh t b _, st => match st with
    | .While z body [] _ => chkT C S t [z] none && chkB C S b body
    | _ => false
  | .brk, st => match st with
    | .Break _ => true
    | _ => false
  | .cnt, st => match st with
    | .Continue _ => true
    | _ => false
  | .pass, st => match st with
    | .Pass _ => true
    | _ => false
  | .dput i k e, st => match st with
    | .Assign [.Subscript (.Name x _) kx _] v _ => nmS C S i x && chkE C S k [kx] none && chkE C S e [v] none
    | _ => false
  | .nev, _ => true
def chkB (C : Cfg) (S : Sc) : IB → List Stmt → Bool
  | .nil, l => l.isEmpty
  | .cons s r, l => match l with
    | z :: zs => chkS C S s z && chkB C S r zs
    | [] => false
end
/-! ### two and three names at once -/
theorem sw2 {x y : Str} {px py p p2 : Pos} {k k2 : Nat} {a b : Expr} {env : Env} (hk : env.scope.kind = .function) (hx : env.scope.names.lookup x = some .local) (hy : env.scope.names.lookup y = some .local) (hl : px.line = py.line) (hxy : x ≠ y)
   (sa : notStar a = true) (sb : notStar b = true) (hf : ([a, b].all (foldedForSure 8)) = false) (hc : ([a, b].all (constantsAlone 8)) = false) :
   swappedStores [.Tuple [.Name x px, .Name y py] k p] (.Tuple [a, b] k2 p2) env = pure (some [x, y]) := by
  have kx : env.kindOf x = some .local := hx
  have ky : env.kindOf y = some .local := hy
  have hb : env.blockKind = .function := by unfold Env.blockKind; rw [hk]; rfl
  have key : ∀ f : Expr → Bool, (∀ z, notStar z = true → f z = false) → ([a, b].any f) = false := fun f h => by simp [h a sa, h b sb]
  unfold swappedStores
  simp only [hb, hf, hc, kx, ky, hl, Expr.pos, List.head?_cons, Option.map_some, Option.getD_some, List.filterMap_cons, List.filterMap_nil, List.length_cons, List.length_nil, beq_self_eq_true, Bool.and_self, ite_true, Bool.or_true, Bool.true_or, Bool.not_true, Bool.false_or, bne_self_eq_false, ite_false, Bool.false_eq_true]
  have hd : [x, y].eraseDups = [x, y] := by
    simp [List.eraseDups_cons, hxy, Ne.symm hxy]
  rw [hd, if_neg (by rw [key _ fun z hz => by cases z <;> first | exact absurd hz Bool.false_ne_true | rfl]; exact Bool.false_ne_true)]
  rfl
theorem sw3 {x y z : Str} {px py pz p p2 : Pos} {k k2 : Nat} {a b c : Expr} {env : Env} (hk : env.scope.kind = .function) (hx : env.scope.names.lookup x = some .local) (hy : env.scope.names.lookup y = some .local) (hz : env.scope.names.lookup z = some .local) (hl : px.line = py.line) (hl2 : px.line = pz.line)
   (hxy : x ≠ y) (hxz : x ≠ z) (hyz : y ≠ z) (sa : notStar a = true) (sb : notStar b = true) (sc : notStar c = true) (hf : ([a, b, c].all (foldedForSure 8)) = false) (hc : ([a, b, c].all (constantsAlone 8)) = false) :
   swappedStores [.Tuple [.Name x px, .Name y py, .Name z pz] k p] (.Tuple [a, b, c] k2 p2) env = pure (some [x, y, z]) := by
  have kx : env.kindOf x = some .local := hx
  have ky : env.kindOf y = some .local := hy
  have kz : env.kindOf z = some .local := hz
  have hb : env.blockKind = .function := by unfold Env.blockKind; rw [hk]; rfl
  have key : ∀ f : Expr → Bool, (∀ z, notStar z = true → f z = false) → ([a, b, c].any f) = false := fun f h => by simp [h a sa, h b sb, h c sc]
  have l1 : py.line = pz.line := hl.symm.trans hl2
  unfold swappedStores
  simp only [hb, hf, hc, kx, ky, kz, hl, l1, Expr.pos, List.head?_cons, Option.map_some, Option.getD_some, List.filterMap_cons, List.filterMap_nil, List.length_cons, List.length_nil, beq_self_eq_true, Bool.and_self, ite_true, Bool.or_true, Bool.true_or, Bool.not_true, Bool.false_or, bne_self_eq_false, ite_false, Bool.false_eq_true]
  have hd : [x, y, z].eraseDups = [x, y, z] := by
    simp [List.eraseDups_cons, hxy, Ne.symm hxy, hxz, Ne.symm hxz, hyz, Ne.symm hyz]
  rw [hd, if_neg (by rw [key _ fun z hz => by cases z <;> first | exact absurd hz Bool.false_ne_true | rfl]; exact Bool.false_ne_true)]
  rfl
theorem sw_comp {elt : Expr} {gs : List Comprehension} {scope : Scope} {pos py : Pos} {y : Str} {l : Nat} {env : Env} : swapsWith (.ListComp elt gs scope pos) (some (.Name y py)) l env =
    pure (env.blockKind == .function && env.kindOf y == some .local && py.line == pos.line && !(scope.names.any fun (n, k) => n == y && (k == .local || k == .cell))) := by
  unfold swapsWith
  rfl
theorem plain_notStar {z : Expr} (h : plainA z = true) : notStar z = true := by
  cases z <;> first | exact absurd h Bool.false_ne_true | rfl
/-! ### the ends of statements -/
def RT (K : PySem.W.Frag) (G : Gh) (H F : Hp) (v : V) : Sl → Prop
  | .v d => Dq K F v d
  | .o ds => ∃ p vs, v = .ref p ∧ G.H0 p = none ∧ F p = none ∧ H p = some (.lst vs) ∧ DqAll K F vs ds
  | .b _ => False
  | .w ds => ∃ p vs, v = .ref p ∧ G.H0 p = none ∧ F p = none ∧ H p = some (.dK vs) ∧ DqKV K F vs ds
def EndOk (K : PySem.W.Frag) (G : Gh) (F : Hp) (D : Ends) : Fl → Prop
  | .nx e => ∀ σ' H' F', Same F F' → Rel K G σ' H' F' e → D.nx σ' H'
  | .bk e => ∀ σ' H' F', Same F F' → Rel K G σ' H' F' e → D.bk σ' H'
  | .ct e => ∀ σ' H' F', Same F F' → Rel K G σ' H' F' e → D.ct σ' H'
  | .rt r e => ∀ v σ' H' F', Same F F' → Rel K G σ' H' F' e → RT K G H' F' v r → D.rt v H'
theorem EndOk.mono {K : PySem.W.Frag} {G : Gh} {F F' : Hp} {D : Ends} {fl : Fl} (m : Same F F') (h : EndOk K G F D fl) : EndOk K G F' D fl := by
  cases fl with
  | nx e => exact fun σ' H' F2 m2 R => h σ' H' F2 (m.trans m2) R
  | bk e => exact fun σ' H' F2 m2 R => h σ' H' F2 (m.trans m2) R
  | ct e => exact fun σ' H' F2 m2 R => h σ' H' F2 (m.trans m2) R
  | rt r e => exact fun v σ' H' F2 m2 R q => h v σ' H' F2 (m.trans m2) R q
section
variable (K : PySem.W.Frag) (Γ : Tab) (C : List (Str × PyData)) (FU : Nat)
def rS (st : IS) : TS := fun D σ H => ∃ G F env fl, Rel K G σ H F env ∧ runS Γ C FU st env = some fl ∧ EndOk K G F D fl
def rB (st : IB) : TS := fun D σ H => ∃ G F env fl, Rel K G σ H F env ∧ runB Γ C FU st env = some fl ∧ EndOk K G F D fl
end
section
variable {X : Cx} {C : Cfg} {S : Sc} {Γ : Tab} {n FU : Nat}
theorem tg_of (hC : COk X C Γ n) (hS : SOk X S) {i : Nat} {x : Str} (h : tgS C S i x = true) : X.N[i]? = some x ∧ L2.Loc X.env.scope x ∧ (X.fn x = true ∨ X.env.scope.names.lookup x = some .local) := by
  unfold tgS at h
  obtain ⟨h1, h2⟩ := and2 h
  obtain ⟨h3, h4⟩ := loc_of hS h2
  exact ⟨by rw [hC.N]; exact of_decide_eq_true h1, h3, h4⟩
/-- a name takes a result -/
theorem setR {K : PySem.W.Frag} {G : Gh} {σ : L2.St} {H F H' F' : Hp} {env env' env2 : En} {i : Nat} {v : V} {r : Sl} (R0 : Rel K G σ H F env) (R : Rel K G σ H' F' env') (E : Ext K σ env H F H' F' env') (q : RV K H H' F' v r) (e : env'.put i r = some env2) :
    Rel K G (σ.set i (some v)) H' F' env2 := by
  cases r with
  | v d => exact R.setv e q
  | b ds => exact q.elim
  | o ds =>
    obtain ⟨p, vs, rfl, h1, h2, h3, h4⟩ := q
    refine R.seto e ?_ h2 h3 h4 fun z => (R0.ownAt (E.own p z)).1 h1
    cases z : G.H0 p with
    | none => rfl
    | some o => exact absurd h1 (R0.live p (by rw [z]; simp))
  | w ds =>
    obtain ⟨p, vs, rfl, h1, h2, h3, h4⟩ := q
    refine R.setm e ?_ h2 h3 h4 fun z => (R0.ownAt (E.own p z)).1 h1
    cases z : G.H0 p with
    | none => rfl
    | some o => exact absurd h1 (R0.live p (by rw [z]; simp))
theorem g_setR {i : Nat} {e : IE} {D : Ends} {σ : L2.St} {H : Hp} (h : rS X.K Γ C.cons FU (.set i e) D σ H) : tAsg (rE X.K Γ C.cons e) (gName i) D σ H := by
  obtain ⟨G, F, env, fl, R, ev, k⟩ := h
  obtain ⟨p, e1, ev⟩ := obind ev
  obtain ⟨e2, e3, ev⟩ := obind ev
  cases ev
  exact ⟨G, F, env, p.1, p.2, R, e1, fun v H1 F1 R1 E1 q1 => k _ _ _ E1.mono (setR R R1 E1 q1 e3)⟩
theorem ps_or {e : Stmt} {t u : TS} (h : PS X e t) (h2 : PS X e u) : PS X e (fun D σ H => t D σ H ∨ u D σ H) := ⟨fun pins s σ H D I q => by
  rcases q with q | q
  · exact h.run pins s σ H D I q
  · exact h2.run pins s σ H D I q⟩
theorem g_set (hC : COk X C Γ n) (hS : SOk X S) {i : Nat} {e : IE} {x : Str} {px pos : Pos} {v : Expr} (ht : tgS C S i x = true) (hv : chkE C S e [v] none = true) (hd : isDC v = false) : PS X (.Assign [.Name x px] v pos) (rS X.K Γ C.cons FU (.set i e)) := by
  obtain ⟨t1, t2, t3⟩ := tg_of hC hS ht
  have pv := (sE e hC hS _ _ hv).1 _ rfl
  have plain : swapsWith v (some (.Name x px)) pos.line X.env = pure false → PS X (.Assign [.Name x px] v pos) (rS X.K Γ C.cons FU (.set i e)) := fun hs => ps_mono (ps_set hC.nd t1 t2 pv hs t3) fun D σ H h => g_setR h
  cases v with
  | ListComp elt gs scope p =>
    rw [sw_comp] at plain
    cases hb : (X.env.blockKind == .function && X.env.kindOf x == some .local && px.line == p.line && !(scope.names.any fun (n, k) => n == x && (k == .local || k == .cell))) with
    | false => exact plain (by rw [hb])
    | true =>
      have hsw : swapsWith (.ListComp elt gs scope p) (some (.Name x px)) pos.line X.env = pure true := by rw [sw_comp, hb]
      obtain ⟨hb, _⟩ := and2 hb
      obtain ⟨_, b2, _⟩ := and3 hb
      have b3 : X.env.kindOf x = some .local := by simpa using b2
      have hl : X.env.scope.names.lookup x = some .local := b3
      cases e with
      | lc own g it c e =>
        unfold chkE at hv
        split at hv
        · rename_i elt2 tg iter ifs as scope2 p2 heq
          cases heq
          obtain ⟨h, h7⟩ := and2 hv
          obtain ⟨h, h6⟩ := and2 h
          obtain ⟨h, h5⟩ := and2 h
          obtain ⟨h, h4⟩ := and2 h
          obtain ⟨h1, h2, h3⟩ := and3 h
          cases of_decide_eq_true h1
          refine ps_mono (ps_setLc hC.calm hC.nd t1 hl hsw (sI it hC hS _ _ h2) (blkOk_by (own := own) (by rw [hS.sc, hC.N]; exact h3)) (fun s H A cl fp => sG (hC.blk s H scope _ fp) (hS.blk s H scope cl A fp) g _ h4) (fun s H A cl fp => ?_)
            (fun s H A cl fp => (sE e (hC.blk s H scope _ fp) (hS.blk s H scope cl A fp) _ _ h7).1 _ rfl) (fun x => chkI_folded it h2 X.env x)) fun D σ H h => lcR (tgs_in h5) (g_setR h)
          split at h6
          · split at h6
            · exact ts_yes
            · cases h6
          · exact pts_one ((sT c (hC.blk s H scope _ fp) (hS.blk s H scope cl A fp) _ _ h6).1 _ rfl)
          · cases h6
        · cases hv
      | lcl own i0 g c e =>
        unfold chkE at hv
        split at hv
        · rename_i elt2 tg x2 px2 ifs as scope2 p2 heq
          cases heq
          obtain ⟨h, h7⟩ := and2 hv
          obtain ⟨h, h6⟩ := and2 h
          obtain ⟨h, h5⟩ := and2 h
          obtain ⟨h, h4⟩ := and2 h
          obtain ⟨h1, h2, h3⟩ := and3 h
          cases of_decide_eq_true h1
          refine ps_mono (ps_setLc hC.calm hC.nd t1 hl hsw (pi_list (pe_nm hC hS h2)) (blkOk_by (own := own) (by rw [hS.sc, hC.N]; exact h3)) (fun s H A cl fp => sG (hC.blk s H scope _ fp) (hS.blk s H scope cl A fp) g _ h4) (fun s H A cl fp => ?_)
            (fun s H A cl fp => (sE e (hC.blk s H scope _ fp) (hS.blk s H scope cl A fp) _ _ h7).1 _ rfl) (fun x => rfl)) fun D σ H h => lclR (tgs_in h5) (g_setR h)
          split at h6
          · split at h6
            · exact ts_yes
            · cases h6
          · exact pts_one ((sT c (hC.blk s H scope _ fp) (hS.blk s H scope cl A fp) _ _ h6).1 _ rfl)
          · cases h6
        · cases hv
      | lcd own i0 g c e =>
        unfold chkE at hv
        split at hv
        · rename_i elt2 tg x2 px2 ifs as scope2 p2 heq
          cases heq
          obtain ⟨h, h7⟩ := and2 hv
          obtain ⟨h, h6⟩ := and2 h
          obtain ⟨h, h5⟩ := and2 h
          obtain ⟨h, h4⟩ := and2 h
          obtain ⟨h1, h2, h3⟩ := and3 h
          cases of_decide_eq_true h1
          have hb := ps_setLc (te := rE X.K Γ C.cons e) (tt := rT X.K Γ C.cons c) (g := rG X.K g) (ifs := ifs) (py := px) (spos := pos) hC.calm hC.nd t1 hl hsw (pi_keys (pe_nm hC hS h2)) (blkOk_by (own := own) (by rw [hS.sc, hC.N]; exact h3)) (fun s H A cl fp => sG (hC.blk s H scope _ fp) (hS.blk s H scope cl A fp) g _ h4) (fun s H A cl fp => by
              split at h6
              · split at h6
                · exact ts_yes
                · cases h6
              · exact pts_one ((sT c (hC.blk s H scope _ fp) (hS.blk s H scope cl A fp) _ _ h6).1 _ rfl)
              · cases h6)
            (fun s H A cl fp => (sE e (hC.blk s H scope _ fp) (hS.blk s H scope cl A fp) _ _ h7).1 _ rfl) (fun x => rfl)
          exact ps_mono (ps_or hb (ps_lock hb)) fun D σ H h => lcdR (tgs_in h5) (g_setR h)
        · cases hv
      | _ => exact absurd hv Bool.false_ne_true
  | SetComp _ _ _ _ => exact absurd (chk_plain _ _ _ _ hv) Bool.false_ne_true
  | DictComp _ _ _ _ _ => exact absurd hd.symm Bool.false_ne_true
  | _ => exact plain rfl
theorem sw_many {es vs : List Expr} {j k : Nat} {p q : Pos} {env : Env} (h : 4 ≤ es.length) : swappedStores [.Tuple es j p] (.Tuple vs k q) env = pure none := by
  have h2 : (es.length == 2) = false := beq_eq_false_iff_ne.mpr (by omega)
  have h3 : (es.length == 3) = false := beq_eq_false_iff_ne.mpr (by omega)
  unfold swappedStores
  simp only [h2, h3, Bool.or_self, Bool.not_false, Bool.true_or, if_true]
theorem fm_lt {α β : Type} (f : α → Option β) : ∀ l : List α, (∃ a ∈ l, f a = none) → (l.filterMap f).length < l.length
  | [], h => by
    obtain ⟨_, h, _⟩ := h
    cases h
  | a :: r, h => by
    have h0 : (r.filterMap f).length ≤ r.length := List.length_filterMap_le _ _
    cases e : f a with
    | none =>
      rw [List.filterMap_cons_none e, List.length_cons]
      omega
    | some b =>
      rw [List.filterMap_cons_some e, List.length_cons, List.length_cons]
      have := fm_lt f r (by
        obtain ⟨x, hx, hn⟩ := h
        rcases List.mem_cons.mp hx with z | z
        · rw [z, e] at hn
          cases hn
        · exact ⟨x, z, hn⟩)
      omega
theorem sw_cell {es vs : List Expr} {j k : Nat} {p q : Pos} {env : Env} (h : cellT env.scope es = true) : swappedStores [.Tuple es j p] (.Tuple vs k q) env = pure none := by
  unfold swappedStores
  simp only []
  split
  · rfl
  · split
    · rfl
    · split
      · rfl
      · rename_i hn
        exfalso
        apply hn
        rw [Bool.or_eq_true]
        refine .inl (bne_iff_ne.mpr (Nat.ne_of_lt (fm_lt _ _ ?_)))
        obtain ⟨e, he, hx⟩ := List.any_eq_true.mp h
        refine ⟨e, he, ?_⟩
        cases e with
        | Name x pos =>
          have hx : (!(env.scope.names.lookup x == some .local)) = true := hx
          have hx2 : ¬ env.scope.names.lookup x = some .local := by simpa using hx
          have hy : (env.kindOf x == some .local) = false := by
            cases h0 : (env.kindOf x == some .local) with
            | false => rfl
            | true => exact absurd (by simpa using h0 : env.kindOf x = some .local) hx2
          simp only [hy, Bool.false_and, Bool.false_eq_true, if_false]
        | _ => cases hx
theorem sw_fold {es vs : List Expr} {j k : Nat} {p q : Pos} {env : Env} (h : vs.all (foldedForSure 8) = true) : swappedStores [.Tuple es j p] (.Tuple vs k q) env = pure none := by
  unfold swappedStores
  simp only []
  split
  · rfl
  · split
    · rfl
    · split
      · rfl
      · first
        | rfl
        | rw [if_pos h]
theorem g_tgt (hC : COk X C Γ n) (hS : SOk X S) {gs : IGs} {e : IE} {es : List Expr} {j : Nat} {tp pos : Pos} {v : Expr} (ht : chkGs C S gs es = true) (hv : chkE C S e [v] none = true) (hn : isTup v = false ∨ (4 ≤ es.length ∨ cellT S.sc es = true)) :
    PS X (.Assign [.Tuple es j tp] v pos) (rS X.K Γ C.cons FU (.tgt gs e)) := by
  have pv := (sE e hC hS _ _ hv).1 _ rfl
  have pg := sG hC hS (.t gs) (.Tuple es j tp) ht
  have pl := chk_plain _ _ _ _ hv
  refine ps_mono (ps_asg pv pg (by cases v <;> first | exact absurd pl Bool.false_ne_true | rfl) (by
    cases v <;> first | exact absurd pl Bool.false_ne_true | rfl | skip
    rcases hn with z | z | z
    · exact sw_fold (by
        have z : (!(List.all _ (foldedForSure 8))) = false := z
        simpa using z)
    · exact sw_many z
    · exact sw_cell (by rw [hS.sc]; exact z))) fun D σ H ⟨G, F, env, fl, R, ev, k⟩ => ?_
  obtain ⟨p, e1, ev⟩ := obind ev
  refine ⟨G, F, env, p.1, p.2, R, e1, fun w H1 F1 R1 E1 q1 => ?_⟩
  obtain ⟨F2, R2, E2, q2⟩ := R.settle R1 E1 q1
  split at ev
  · rename_i ds hd
    obtain ⟨e2, e3, ev⟩ := obind ev
    cases ev
    exact ⟨G, F2, p.2, p.1.d, e2, R2, q2, by rw [hd]; exact e3, fun σ' R' _ _ _ => k σ' H1 F2 E2.mono R'⟩
  · cases ev
theorem two_vals {a b : IE} {K : PySem.W.Frag} {cons : List (Str × PyData)} {σ : L2.St} {H : Hp} {G : Gh} {F : Hp} {env : En} {p q : Sl × En} {R : List V → Hp → Prop} {tr : TA} (R0 : Rel K G σ H F env) (e1 : runE Γ cons a env = some p) (e2 : runE Γ cons b p.2 = some q)
    (k : ∀ v w H2 F2, Rel K G σ H2 F2 q.2 → Ext K σ env H F H2 F2 q.2 → Dq K F2 v p.1.d → Dq K F2 w q.1.d → tr σ H2 fun us H3 => R (v :: w :: us) H3) :
    tCons (rE K Γ cons a) (tCons (rE K Γ cons b) tr) σ H R := by
  refine ⟨G, F, env, p.1, p.2, R0, e1, fun v H1 F1 R1 E1 q1 => ?_⟩
  obtain ⟨F2, R2, E2, k1⟩ := R0.settle R1 E1 q1
  refine ⟨G, F2, p.2, q.1, q.2, R2, e2, fun w H3 F3 R3 E3 q3 => ?_⟩
  obtain ⟨F4, R4, E4, k2⟩ := R2.settle R3 E3 q3
  exact k v w H3 F4 R4 (E2.trans E4) (dpMono E4.mono _ k1) k2
theorem ne_ix (hC : COk X C Γ n) {i j : Nat} {x y : Str} (h1 : X.N[i]? = some x) (h2 : X.N[j]? = some y) (h : x ≠ y) : i ≠ j := fun e => h (by
  rw [e, h2] at h1
  exact (Option.some.inj h1).symm)
theorem RV.keep {K : PySem.W.Frag} {G : Gh} {σ : L2.St} {H F H1 F1 H3 F3 : Hp} {env env1 env3 : En} {v : V} {r : Sl} (R0 : Rel K G σ H F env) (E1 : Ext K σ env H F H1 F1 env1) (E3 : Ext K σ env1 H1 F1 H3 F3 env3) (q : RV K H H1 F1 v r) : RV K H H3 F3 v r := by
  cases r with
  | v d => exact dpMono E3.mono d q
  | b ds => exact q.elim
  | o ds =>
    obtain ⟨p, vs, rfl, h1, h2, h3, h4⟩ := q
    have no : ¬ Own σ env1 p := fun z => (R0.ownAt (E1.own p z)).1 h1
    refine ⟨p, vs, rfl, h1, ?_, E3.keep p _ h3 NT.lst no, dpAllMono E3.mono ds h4⟩
    cases e : F3 p with
    | none => rfl
    | some o =>
      rcases E3.fresh p (by rw [e]; simp) with z | z | z
      · exact absurd h2 z
      · rw [h3] at z
        cases z
      · exact absurd z no
  | w ds =>
    obtain ⟨p, vs, rfl, h1, h2, h3, h4⟩ := q
    have no : ¬ Own σ env1 p := fun z => (R0.ownAt (E1.own p z)).1 h1
    refine ⟨p, vs, rfl, h1, ?_, E3.keep p _ h3 NT.dK no, dpKVMono E3.mono ds h4⟩
    cases e : F3 p with
    | none => rfl
    | some o =>
      rcases E3.fresh p (by rw [e]; simp) with z | z | z
      · exact absurd h2 z
      · rw [h3] at z
        cases z
      · exact absurd z no
theorem own_set {σ : L2.St} {env : En} {i : Nat} {v : V} {r : Sl} {p : Addr} (h : Own (σ.set i (some v)) (env.set i (some r)) p) : Own σ env p ∨ (v = .ref p ∧ ∃ ds, r.m = some ds) := by
  obtain ⟨j, s, ds, e, m, g⟩ := h
  rw [at_set] at e
  rw [st_get] at g
  by_cases hj : i = j
  · subst hj
    rw [if_pos rfl] at g
    split at g
    · cases g
      by_cases hl : i < env.length
      · rw [if_pos ⟨rfl, hl⟩] at e
        cases e
        exact .inr ⟨rfl, ds, m⟩
      · rw [if_neg fun z => hl z.2] at e
        exact absurd (at_lt e) hl
    · cases g
  · rw [if_neg fun z => hj z.1] at e
    rw [if_neg hj] at g
    exact .inl ⟨j, s, ds, e, m, g⟩
/-- what is new since Hb stands in no name -/
def Nw (Hb : Hp) (σ : L2.St) (env : En) : Prop := ∀ p, Hb p = none → ¬ Own σ env p
theorem nw_ext {K : PySem.W.Frag} {G : Gh} {σ : L2.St} {H F H1 F1 : Hp} {env env1 : En} (R0 : Rel K G σ H F env) (E1 : Ext K σ env H F H1 F1 env1) : Nw H σ env1 := fun p h z => (R0.ownAt (E1.own p z)).1 h
theorem nw_put {K : PySem.W.Frag} {Hb Ha F' : Hp} {σ : L2.St} {env env' : En} {i : Nat} {v : V} {r : Sl} (n : Nw Hb σ env) (e : env.put i r = some env') (q : RV K Ha Hb F' v r) : Nw Hb (σ.set i (some v)) env' := by
  obtain ⟨rfl, _⟩ := put_inv e
  intro p h z
  rcases own_set z with z | ⟨rfl, ds, m⟩
  · exact n p h z
  · cases r with
    | v d => cases m
    | b ds => exact q.elim
    | o ds =>
      obtain ⟨p', vs, e2, h1, h2, h3, h4⟩ := q
      cases e2
      rw [h] at h3
      cases h3
    | w ds =>
      obtain ⟨p', vs, e2, h1, h2, h3, h4⟩ := q
      cases e2
      rw [h] at h3
      cases h3
theorem setN {K : PySem.W.Frag} {G : Gh} {σ σ0 : L2.St} {Hb Fb H' F' : Hp} {env0 env' env2 : En} {i : Nat} {v : V} {r : Sl} (R0 : Rel K G σ0 Hb Fb env0) (R : Rel K G σ H' F' env') (n : Nw Hb σ env') (q : RV K Hb H' F' v r) (e : env'.put i r = some env2) :
    Rel K G (σ.set i (some v)) H' F' env2 := by
  cases r with
  | v d => exact R.setv e q
  | b ds => exact q.elim
  | o ds =>
    obtain ⟨p, vs, rfl, h1, h2, h3, h4⟩ := q
    refine R.seto e ?_ h2 h3 h4 (n p h1)
    cases z : G.H0 p with
    | none => rfl
    | some o => exact absurd h1 (R0.live p (by rw [z]; simp))
  | w ds =>
    obtain ⟨p, vs, rfl, h1, h2, h3, h4⟩ := q
    refine R.setm e ?_ h2 h3 h4 (n p h1)
    cases z : G.H0 p with
    | none => rfl
    | some o => exact absurd h1 (R0.live p (by rw [z]; simp))
theorem g_par2 (hC : COk X C Γ n) (hS : SOk X S) {i j : Nat} {a b : IE} {x y : Str} {px py tp tp2 pos : Pos} {k1 k2 : Nat} {u v : Expr} (h1 : X.N[i]? = some x) (h2 : X.N[j]? = some y) (l1 : S.sc.names.lookup x = some .local) (l2 : S.sc.names.lookup y = some .local) (hl : px.line = py.line) (hxy : x ≠ y)
    (hf : ([u, v].all (foldedForSure 8)) = false) (hc : ([u, v].all (constantsAlone 8)) = false) (hk : S.sc.kind = .function) (ha : chkE C S a [u] none = true) (hb : chkE C S b [v] none = true) :
    PS X (.Assign [.Tuple [.Name x px, .Name y py] k1 tp] (.Tuple [u, v] k2 tp2) pos) (rS X.K Γ C.cons FU (.par2 i j a b)) := by
  have pu := chk_plain _ _ _ _ ha
  have pv := chk_plain _ _ _ _ hb
  rw [← hS.sc] at l1 l2 hk
  refine ps_mono (ps_par hC.calm hC.nd h1 h2 (ne_ix hC h1 h2 hxy) l1 l2 (pa_cons ((sE a hC hS _ _ ha).1 _ rfl) (pa_cons ((sE b hC hS _ _ hb).1 _ rfl) pa_nil (plain_star pv _ _)) (plain_star pu _ _)) (sw2 hk l1 l2 hl hxy (plain_notStar pu) (plain_notStar pv) hf hc)) fun D σ H ⟨G, F, env, fl, R, ev, k⟩ => ?_
  obtain ⟨p, e1, ev⟩ := obind ev
  obtain ⟨q, e2, ev⟩ := obind ev
  obtain ⟨w1, e3, ev⟩ := obind ev
  obtain ⟨w2, e4, ev⟩ := obind ev
  cases ev
  refine ⟨G, F, env, p.1, p.2, R, e1, fun v H1 F1 R1 E1 q1 => ⟨G, F1, p.2, q.1, q.2, R1, e2, fun w H3 F3 R3 E3 q3 => ⟨v, w, rfl, k _ _ _ (E1.trans E3).mono ?_⟩⟩⟩
  have n1 := nw_ext R (E1.trans E3)
  have n2 := nw_ext R1 E3
  exact setN R1 (setN R R3 n1 (q1.keep R E1 E3) e3) (nw_put n2 e3 q1) q3 e4
theorem g_par3 (hC : COk X C Γ n) (hS : SOk X S) {i j l : Nat} {a b c : IE} {x y z : Str} {px py pz tp tp2 pos : Pos} {k1 k2 : Nat} {u v w : Expr} (h1 : X.N[i]? = some x) (h2 : X.N[j]? = some y) (h3 : X.N[l]? = some z) (l1 : S.sc.names.lookup x = some .local) (l2 : S.sc.names.lookup y = some .local) (l3 : S.sc.names.lookup z = some .local)
    (hl : px.line = py.line) (hl2 : px.line = pz.line) (hxy : x ≠ y) (hxz : x ≠ z) (hyz : y ≠ z) (hf : ([u, v, w].all (foldedForSure 8)) = false) (hc : ([u, v, w].all (constantsAlone 8)) = false) (hk : S.sc.kind = .function) (ha : chkE C S a [u] none = true) (hb : chkE C S b [v] none = true) (hw : chkE C S c [w] none = true) :
    PS X (.Assign [.Tuple [.Name x px, .Name y py, .Name z pz] k1 tp] (.Tuple [u, v, w] k2 tp2) pos) (rS X.K Γ C.cons FU (.par3 i j l a b c)) := by
  have pu := chk_plain _ _ _ _ ha
  have pv := chk_plain _ _ _ _ hb
  have pw := chk_plain _ _ _ _ hw
  rw [← hS.sc] at l1 l2 l3 hk
  refine ps_mono (ps_par3 hC.calm hC.nd h1 h2 h3 (ne_ix hC h1 h2 hxy) (ne_ix hC h1 h3 hxz) (ne_ix hC h2 h3 hyz) l1 l2 l3
    (pa_cons ((sE a hC hS _ _ ha).1 _ rfl) (pa_cons ((sE b hC hS _ _ hb).1 _ rfl) (pa_cons ((sE c hC hS _ _ hw).1 _ rfl) pa_nil (plain_star pw _ _)) (plain_star pv _ _)) (plain_star pu _ _)) (sw3 hk l1 l2 l3 hl hl2 hxy hxz hyz (plain_notStar pu) (plain_notStar pv) (plain_notStar pw) hf hc)) fun D σ H ⟨G, F, env, fl, R, ev, k⟩ => ?_
  obtain ⟨p, e1, ev⟩ := obind ev
  obtain ⟨q, e2, ev⟩ := obind ev
  obtain ⟨r, e5, ev⟩ := obind ev
  obtain ⟨w1, e3, ev⟩ := obind ev
  obtain ⟨w2, e4, ev⟩ := obind ev
  obtain ⟨w3, e6, ev⟩ := obind ev
  cases ev
  refine ⟨G, F, env, p.1, p.2, R, e1, fun v H1 F1 R1 E1 q1 => ⟨G, F1, p.2, q.1, q.2, R1, e2, fun w H3 F3 R3 E3 q3 => ⟨G, F3, q.2, r.1, r.2, R3, e5, fun t H5 F5 R5 E5 q5 => ⟨v, w, t, rfl, k _ _ _ ((E1.trans E3).trans E5).mono ?_⟩⟩⟩⟩
  have n1 := nw_ext R ((E1.trans E3).trans E5)
  have n2 := nw_ext R1 (E3.trans E5)
  have n3 := nw_ext R3 E5
  have a1 := setN R R5 n1 (q1.keep R E1 (E3.trans E5)) e3
  have a2 := setN R1 a1 (nw_put n2 e3 q1) (q3.keep R1 E3 E5) e4
  exact setN R3 a2 (nw_put (nw_put n3 e3 (q1.keep R E1 E3)) e4 q3) q5 e6
/-! ### several names at once -/
inductive Hands (K : PySem.W.Frag) (H' F' : Hp) : Hp → List V → List Sl → Prop
  | nil {H : Hp} : Hands K H' F' H [] []
  | cons {H H1 : Hp} {v : V} {vs : List V} {r : Sl} {rs : List Sl} : RV K H H' F' v r → (∀ p ds, r.m = some ds → v = .ref p → H1 p ≠ none) → (∀ b, H b ≠ none → H1 b ≠ none) → Hands K H' F' H1 vs rs → Hands K H' F' H (v :: vs) (r :: rs)
theorem Hands.len {K : PySem.W.Frag} {H' F' : Hp} : ∀ {rs : List Sl} {H : Hp} {vs : List V}, Hands K H' F' H vs rs → vs.length = rs.length
  | _, _, _, .nil => rfl
  | _, _, _, .cons _ _ _ h => by rw [List.length_cons, List.length_cons, h.len]
/-- a new object beside them -/
theorem Hands.beside {K : PySem.W.Frag} {H' F' : Hp} {T : Addr} {o : HO} (hT : H' T = none) : ∀ {rs : List Sl} {H : Hp} {vs : List V}, Hands K H' F' H vs rs → Hands K (upd H' T o) F' H vs rs
  | _, _, _, .nil => .nil
  | _, _, _, .cons (r := r) q h1 h2 h3 => by
    refine .cons ?_ h1 h2 (h3.beside hT)
    cases r with
    | v d => exact q
    | b ds => exact q
    | o ds =>
      obtain ⟨p, vs, e, a, b, c, d⟩ := q
      exact ⟨p, vs, e, a, b, by rw [upd_ne (ne_of_none c hT)]; exact c, d⟩
    | w ds =>
      obtain ⟨p, vs, e, a, b, c, d⟩ := q
      exact ⟨p, vs, e, a, b, by rw [upd_ne (ne_of_none c hT)]; exact c, d⟩
def rR (K : PySem.W.Frag) (Γ : Tab) (cs : List (Str × PyData)) (es : IL) : TA := fun σ H Q => ∃ G F env rs env', Rel K G σ H F env ∧ runR Γ cs es env = some (rs, env') ∧ ∀ vs H' F', Rel K G σ H' F' env' → Ext K σ env H F H' F' env' → Hands K H' F' H vs rs → Q vs H'
theorem sR (hC : COk X C Γ n) (hS : SOk X S) : ∀ (es : IL) (l : List Expr), chkL C S es l = true → PA X l (rR X.K Γ C.cons es)
  | .nil, l, h => by
    cases l with
    | nil =>
      refine pa_mono pa_nil fun σ H Q ⟨G, F, env, rs, env', R, e, k⟩ => ?_
      cases e
      exact k [] H F R Ext.refl .nil
    | cons _ _ => exact absurd h Bool.false_ne_true
  | .cons a r, l, h => by
    cases l with
    | nil => exact absurd h Bool.false_ne_true
    | cons z zs =>
      obtain ⟨h1, h2⟩ := and2 h
      refine pa_mono (pa_cons ((sE a hC hS _ _ h1).1 _ rfl) (sR hC hS r _ h2) (plain_star (chk_plain _ _ _ _ h1) _ _)) fun σ H Q ⟨G, F, env, rs, env', R, e, k⟩ => ?_
      obtain ⟨p, e1, e⟩ := obind e
      obtain ⟨q, e2, e⟩ := obind e
      cases e
      refine ⟨G, F, env, p.1, p.2, R, e1, fun v H1 F1 R1 E1 q1 => ⟨G, F1, p.2, q.1, q.2, R1, e2, fun vs H2 F2 R2 E2 hs => k (v :: vs) H2 F2 R2 (E1.trans E2) (.cons (q1.keep R E1 E2) (fun b ds er ev => ?_) E1.live hs)⟩⟩
      cases hp1 : p.1 with
      | v d =>
        rw [hp1] at er
        cases er
      | b d =>
        rw [hp1] at q1
        exact q1.elim
      | o d =>
        rw [hp1] at q1
        obtain ⟨p', ws, ev', _, _, a3, _⟩ := q1
        rw [ev] at ev'
        cases ev'
        rw [a3]
        exact fun z => nomatch z
      | w d =>
        rw [hp1] at q1
        obtain ⟨p', ws, ev', _, _, a3, _⟩ := q1
        rw [ev] at ev'
        cases ev'
        rw [a3]
        exact fun z => nomatch z
  | .star a r, l, h => by
    refine pa_mono (sV (.star a r) hC hS l h) fun σ H Q ⟨G, F, env, rs, env', R, e, k⟩ => ?_
    cases e
  | .io i r, l, h => by
    refine pa_mono (sV (.io i r) hC hS l h) fun σ H Q ⟨G, F, env, rs, env', R, e, k⟩ => ?_
    cases e
def setsN (σ : L2.St) : List Nat → List V → L2.St
  | i :: is, v :: vs => setsN (σ.set i (some v)) is vs
  | _, _ => σ
theorem sGn (hC : COk X C Γ n) (hS : SOk X S) : ∀ (is : List Nat) (es : List Expr), chkN C S is es = true → PGs X es (fun vs σ H Q => vs.length = is.length ∧ Q (setsN σ is vs) H) ∧ es.length = is.length ∧ (assignEach es X.env).length = is.length ∧ (assignEach es X.env).findIdx? (·.1) = none
  | [], es, h => by
    cases es with
    | nil =>
      refine ⟨pgs_mono pgs_nil fun vs σ H Q ⟨e, q⟩ => ?_, rfl, rfl, rfl⟩
      cases vs with
      | nil => exact ⟨rfl, q⟩
      | cons _ _ => cases e
    | cons _ _ => exact absurd h Bool.false_ne_true
  | i :: is, es, h => by
    unfold chkN at h
    split at h
    · rename_i x px zs
      obtain ⟨h1, h2⟩ := and2 h
      obtain ⟨t1, t2, t3⟩ := tg_of hC hS h1
      obtain ⟨a, b, c, d⟩ := sGn hC hS is zs h2
      refine ⟨pgs_mono (pgs_cons (pg_name hC.nd t1 t2 t3) a rfl) fun vs σ H Q ⟨e, q⟩ => ?_, by simp [b], by
        show ((assignEach zs X.env).length + 1) = _
        rw [c]
        rfl, ?_⟩
      · cases vs with
        | nil => cases e
        | cons v vs => exact ⟨v, vs, rfl, by simpa using e, q⟩
      · show List.findIdx? (·.1) ((false, _) :: assignEach zs X.env) = none
        rw [List.findIdx?_cons]
        simp [d]
    · cases h
theorem putsR {K : PySem.W.Frag} {G : Gh} {H' F' : Hp} : ∀ (is : List Nat) (rs : List Sl) (H : Hp) (vs : List V) (σ : L2.St) (env env2 : En), Rel K G σ H' F' env → (∀ b, G.H0 b ≠ none → H b ≠ none) → Nw H σ env → Hands K H' F' H vs rs → putN is rs env = some env2 →
    Rel K G (setsN σ is vs) H' F' env2
  | [], [], _, _, σ, env, env2, R, _, _, hs, e => by
    cases hs
    cases e
    exact R
  | [], _ :: _, _, _, _, _, _, _, _, _, _, e => by cases e
  | _ :: _, [], _, _, _, _, _, _, _, _, _, e => by cases e
  | i :: is, r :: rs, H, _, σ, env, env2, R, live, nw, hs, e => by
    obtain ⟨env1, e1, e2⟩ := obind e
    cases hs with
    | cons q h1 h2 hs =>
      rename_i H1 v vs
      have R1 : Rel K G (σ.set i (some v)) H' F' env1 := by
        cases r with
        | v d => exact R.setv e1 q
        | b ds => exact q.elim
        | o ds =>
          obtain ⟨p, ws, rfl, a1, a2, a3, a4⟩ := q
          refine R.seto e1 ?_ a2 a3 a4 (nw p a1)
          cases z : G.H0 p with
          | none => rfl
          | some o => exact absurd a1 (live p (by rw [z]; simp))
        | w ds =>
          obtain ⟨p, ws, rfl, a1, a2, a3, a4⟩ := q
          refine R.setm e1 ?_ a2 a3 a4 (nw p a1)
          cases z : G.H0 p with
          | none => rfl
          | some o => exact absurd a1 (live p (by rw [z]; simp))
      refine putsR is rs H1 vs (σ.set i (some v)) env1 env2 R1 (fun b hb => h2 b (live b hb)) (fun p hp z => ?_) hs e2
      obtain ⟨rfl, _⟩ := put_inv e1
      have hp0 : H p = none := by
        cases hh : H p with
        | none => rfl
        | some o => exact absurd hp (h2 p (by rw [hh]; simp))
      rcases own_set z with z | ⟨ev, ds, hm⟩
      · exact nw p hp0 z
      · cases r with
        | v d => cases hm
        | b ds => exact q.elim
        | o ds => exact h1 p _ rfl ev hp
        | w ds => exact h1 p _ rfl ev hp
theorem runR_len : ∀ (es : IL) (vs : List Expr) (env : En) (q : List Sl × En), chkL C S es vs = true → runR Γ C.cons es env = some q → q.1.length = vs.length
  | .nil, vs, env, q, h, e => by
    cases e
    cases vs with
    | nil => rfl
    | cons _ _ => exact absurd h Bool.false_ne_true
  | .cons a r, vs, env, q, h, e => by
    obtain ⟨p1, _, e⟩ := obind e
    obtain ⟨q1, e2, e⟩ := obind e
    cases e
    cases vs with
    | nil => exact absurd h Bool.false_ne_true
    | cons z zs =>
      obtain ⟨_, h2⟩ := and2 h
      rw [List.length_cons, List.length_cons, runR_len r zs _ _ h2 e2]
  | .star a r, _, _, _, _, e => by cases e
  | .io i r, _, _, _, _, e => by cases e
theorem g_parn (hC : COk X C Γ n) (hS : SOk X S) {is : List Nat} {es : IL} {ts vs : List Expr} {j j2 : Nat} {tp tp2 pos : Pos} (ht : chkN C S is ts = true) (hv : chkL C S es vs = true) (hl : vs.length ≤ 1000) (hn : 4 ≤ ts.length ∨ cellT S.sc ts = true) :
    PS X (.Assign [.Tuple ts j tp] (.Tuple vs j2 tp2) pos) (rS X.K Γ C.cons FU (.parn is es)) := by
  obtain ⟨a, b, c, d⟩ := sGn hC hS is ts ht
  refine ps_mono (ps_asg (pe_tup (sR hC hS es vs hv)) (pg_tup hC.calm a c d) rfl (by
    rcases hn with z | z
    · exact sw_many z
    · exact sw_cell (by rw [hS.sc]; exact z))) fun D σ H ⟨G, F, env, fl, R, ev, k⟩ => ?_
  obtain ⟨p, e1, ev⟩ := obind ev
  obtain ⟨e2, e3, ev⟩ := obind ev
  cases ev
  have lenP : ∀ (is : List Nat) (rs : List Sl) (env env2 : En), putN is rs env = some env2 → rs.length = is.length := by
    intro is
    induction is with
    | nil =>
      intro rs env env2 e
      cases rs with
      | nil => rfl
      | cons _ _ => cases e
    | cons i is ih =>
      intro rs env env2 e
      cases rs with
      | nil => cases e
      | cons r rs =>
        obtain ⟨e1, _, e⟩ := obind e
        rw [List.length_cons, List.length_cons, ih rs _ _ e]
  refine ⟨G, F, env, p.1, p.2, R, e1, fun ws H1 F1 R1 E1 hs => ⟨?_, fun T hT => ?_⟩⟩
  · have h1 := hs.len
    have h2 := runR_len es vs env p hv e1
    have h3 : (1000 : Nat) ≤ sizeLine := by decide
    omega
  · obtain ⟨R2, E2⟩ := R1.grow (F' := F1) (H' := upd H1 T (.tup ws)) (Same.refl _) (fun b o z => by
      rw [upd_ne (ne_of_none (R1.sub b o z) hT)]
      exact R1.sub b o z) (same_upd1 hT) (.upd .tup) (fun b z => .inl z)
    have h1 := hs.len
    have h2 := lenP is p.1 p.2 e2 e3
    refine ⟨T, ws, rfl, .inl (.inl upd_same), by omega, by omega, ?_⟩
    refine k _ _ F1 (E1.trans E2).mono (putsR is p.1 H ws σ p.2 e2 R2 R.live (fun q hq z => (R.ownAt (E1.own q z)).1 hq) (hs.beside hT) e3)
/-! ### items of a name's list -/
theorem atS_of {env : En} {i : Nat} {xs : List PyData} (h : atS env i = some xs) : ∃ s, env.at i = some s ∧ s.m = some (.l xs) := by
  unfold atS at h
  split at h
  · cases h
    exact ⟨_, by assumption, rfl⟩
  · cases h
    exact ⟨_, by assumption, rfl⟩
  · cases h
theorem setS_of {env env' : En} {i : Nat} {ys : List PyData} (h : setS env i ys = some env') : ∃ s s' xs, env.at i = some s ∧ s.m = some (.l xs) ∧ s'.m = some (.l ys) ∧ isB s' = isB s ∧ env' = env.set i (some s') := by
  unfold setS at h
  split at h
  · rename_i xs h0
    cases h
    exact ⟨.o xs, .o ys, xs, h0, rfl, rfl, rfl, rfl⟩
  · rename_i xs h0
    cases h
    exact ⟨.b xs, .b ys, xs, h0, rfl, rfl, rfl, rfl⟩
  · cases h
theorem ixN_len {m m' : Nat} (h : m = m') (i : Int) : ixN m i = ixN m' i := by rw [h]
theorem g_six (hC : COk X C Γ n) (hS : SOk X S) {i : Nat} {c e : IE} {x : Str} {kx v : Expr} {px sp pos : Pos} (hx : nmS C S i x = true) (hk : chkE C S c [kx] none = true) (hv : chkE C S e [v] none = true) :
    PS X (.Assign [.Subscript (.Name x px) kx sp] v pos) (rS X.K Γ C.cons FU (.six i c e)) := by
  have pv := (sE e hC hS _ _ hv).1 _ rfl
  have pk := h_of hC hS hk ((sE c hC hS _ _ hk).1 _ rfl)
  have pl := chk_plain _ _ _ _ hv
  have pk2 := chk_plain _ _ _ _ hk
  refine ps_mono (ps_asg pv (pg_sub (pe_nm (p := px) hC hS hx) pk set_list (by cases kx <;> first | exact absurd pk2 Bool.false_ne_true | (intro _; rfl))) (by cases v <;> first | exact absurd pl Bool.false_ne_true | rfl)) fun D σ H ⟨G, F, env, fl, R, ev, k⟩ => ?_
  obtain ⟨p, e1, ev⟩ := obind ev
  obtain ⟨hm, ev⟩ := oite ev
  obtain ⟨q, e2, ev⟩ := obind ev
  obtain ⟨y, e3, ev⟩ := obind ev
  refine ⟨G, F, env, p.1, p.2, R, e1, fun w H1 F1 R1 E1 q1 => ?_⟩
  obtain ⟨F2, R2, E2, q2⟩ := R.settle R1 E1 q1
  obtain ⟨s0, xs0, a0, b0⟩ := mutAt_of hm
  obtain ⟨pa, vs0, g0, _⟩ := R2.mu i s0 xs0 a0 b0
  refine ⟨.ref pa, g0, G, F2, p.2, q.1, q.2, R2, e2, fun u H3 F3 R3 E3 q3 => ?_⟩
  split at ev
  · obtain ⟨xs, e4, ev⟩ := obind ev
    obtain ⟨j, e5, ev⟩ := obind ev
    obtain ⟨e', e6, ev⟩ := obind ev
    cases ev
    cases opd_int (q3.opd R3 e3)
    obtain ⟨s, a1, b1⟩ := atS_of e4
    obtain ⟨pb, vs, g1, f1, h1, dq, _⟩ := R3.mu i s xs a1 b1
    rw [g0] at g1
    cases g1
    obtain ⟨s2, s', xs2, a2, b2, b3, b4, rfl⟩ := setS_of e6
    refine ⟨pa, vs, _, j, rfl, rfl, h1, by rw [dpAll_len dq]; exact e5, ?_⟩
    obtain ⟨R4, E4⟩ := R3.change (s' := s') a2 b2 g0 h1 b3 b4 (dpAll_set (dpMono E3.mono _ q2) j dq)
    exact k _ _ _ ((E2.trans E3).trans E4).mono R4
  · cases ev
theorem g_dput (hC : COk X C Γ n) (hS : SOk X S) {i : Nat} {c e : IE} {x : Str} {kx v : Expr} {px sp pos : Pos} (hx : nmS C S i x = true) (hk : chkE C S c [kx] none = true) (hv : chkE C S e [v] none = true) :
    PS X (.Assign [.Subscript (.Name x px) kx sp] v pos) (rS X.K Γ C.cons FU (.dput i c e)) := by
  have pv := d_of ((sE e hC hS _ _ hv).1 _ rfl)
  have pk := h_of hC hS hk ((sE c hC hS _ _ hk).1 _ rfl)
  have pl := chk_plain _ _ _ _ hv
  refine ps_mono (ps_dput (by have := hC.units; omega) (pe_nm (p := px) hC hS hx) pk pv (by cases v <;> first | exact absurd pl Bool.false_ne_true | rfl)) fun D σ H ⟨G, F, env, fl, R, ev, k⟩ => ?_
  obtain ⟨p, e1, ev⟩ := obind ev
  obtain ⟨k0, e0, ev⟩ := obind ev
  obtain ⟨q, e2, ev⟩ := obind ev
  obtain ⟨y, e3, ev⟩ := obind ev
  obtain ⟨z, e4, ev⟩ := obind ev
  refine ⟨G, F, env, p.1, p.2, R, e1, fun w H1 F1 R1 E1 q1 => ?_⟩
  obtain ⟨a, _, g0, _⟩ := dct_of R1 e0
  refine ⟨.ref a, g0, G, F1, p.2, q.1, q.2, R1, e2, fun u H2 F2 R2 E2 q2 => ?_⟩
  split at ev
  · rename_i kvs ea
    split at ev
    · rename_i hz
      cases ev
      obtain ⟨b, ps, g1, fb, hb, dq, _⟩ := R2.muD i _ _ ea rfl
      rw [g0] at g1
      cases g1
      have dq2 := dq.put (K := X.K) (F := F2) e4 (dpMono E2.mono _ q1)
      obtain ⟨R4, E4⟩ := R2.changeG (s' := .w (dput kvs y z p.1.d)) (ds' := .d (dput kvs y z p.1.d)) (ws := .dK (putK ps z w)) ea rfl g0 rfl rfl dq2
      exact ⟨a, _, rfl, .inl ⟨ps, z, hb, key_of (q2.opd R2 e3) e4, by rw [dq.len]; exact hz, rfl⟩, k _ _ _ ((E1.trans E2).trans E4).mono R4⟩
    · cases ev
  · cases ev
/-! ### += -/
def qAug (K : PySem.W.Frag) (op : Operator) : TIp := fun x y H Q => ∃ F a b r, Same F H ∧ Opd K F H x a ∧ Opd K F H y b ∧ augD op a b = some r ∧ ∀ v, Dq K F v r → Q v H
theorem ip_aug (op : Operator) : PIp X op (qAug X.K op) := by
  intro pins s σ H x y v u Q I rx ry h
  obtain ⟨F, a, b, r, sm, oa, ob, e, m⟩ := h
  unfold augD at e
  split at e
  · cases e
    cases opd_int oa
    cases opd_int ob
    exact iop_add pins s σ H _ _ v u Q I rx ry ⟨_, _, rfl, rfl, m _ (.int _)⟩
  · cases e
    cases opd_int oa
    cases opd_int ob
    exact iop_sub pins s σ H _ _ v u Q I rx ry ⟨_, _, rfl, rfl, m _ (.int _)⟩
  · obtain ⟨hc, e⟩ := oite e
    cases e
    cases opd_int oa
    cases opd_int ob
    exact iop_fdivW pins s σ H _ _ v u Q I rx ry ⟨_, _, rfl, rfl, hc, m _ (.int _)⟩
  · obtain ⟨hc, e⟩ := oite e
    cases e
    cases opd_str oa
    cases opd_str ob
    exact iop_add_str pins s σ H _ _ v u Q I rx ry ⟨_, _, rfl, rfl, hc, m _ (.str _)⟩
  · cases e
theorem g_aug (hC : COk X C Γ n) (hS : SOk X S) {i : Nat} {op : Operator} {e : IE} {x : Str} {v : Expr} {px pos : Pos} (ht : tgS C S i x = true) (hv : chkE C S e [v] none = true) : PS X (.AugAssign (.Name x px) op v pos) (rS X.K Γ C.cons FU (.aug i op e)) := by
  obtain ⟨t1, t2, t3⟩ := tg_of hC hS ht
  have pv := h_of hC hS hv ((sE e hC hS _ _ hv).1 _ rfl)
  refine ps_mono (ps_aug hC.nd t1 t2 pv (ip_aug op) t3) fun D σ H ⟨G, F, env, fl, R, ev, k⟩ => ?_
  obtain ⟨p, e1, ev⟩ := obind ev
  split at ev
  · rename_i x0 a0
    obtain ⟨y, e2, ev⟩ := obind ev
    obtain ⟨d, e3, ev⟩ := obind ev
    obtain ⟨e', e4, ev⟩ := obind ev
    cases ev
    obtain ⟨w, g0, q0⟩ := R.val i _ a0
    exact ⟨w, g0, G, F, env, p.1, p.2, R, e1, fun u H1 F1 R1 E1 q1 => ⟨F1, _, _, _, R1.sub, .inl (dpMono E1.mono _ q0), q1.opd R1 e2, e3, fun z qz => k _ _ _ E1.mono (R1.setv e4 qz)⟩⟩
  · cases ev
def qGet (K : PySem.W.Frag) : V → V → Hp → VK → Prop := fun o i H Q => ∃ p xs z v, o = .ref p ∧ i = .int z ∧ SqL K H p xs ∧ atI xs z = some v ∧ Q v H
theorem get_list : PGet X (qGet X.K) := by
  intro pins s σ H o i ov iv Q I r1 r2 h
  obtain ⟨p, xs, z, v, rfl, rfl, hq, he, q⟩ := h
  cases r1
  obtain ⟨t, rfl⟩ := r2
  obtain ⟨its, r, pl, hz⟩ := I.list hq
  obtain ⟨j, h1, h2, h3, h4, h5⟩ := atI_get he
  obtain ⟨w, ew, rw'⟩ := r.get h2
  have hl := r.length
  have hn := line63
  by_cases h0 : 0 ≤ z
  · rw [seqIndex_of h0 h5] at h1
    have hj := Option.some.inj h1
    exact wpAny_getItem_list pl.isList h0 (by omega) (x := w) (by rw [hj]; simpa using ew) ⟨v, H, I, rw', q⟩
  · rw [seqIndex_neg (by omega) h4] at h1
    have hj := Option.some.inj h1
    refine wpAny_getItem_list_neg pl.isList (by omega) (by rw [List.size_toArray]; omega) (by omega) (x := w) ?_ ⟨v, H, I, rw', q⟩
    rw [List.size_toArray, ← hl, hj]
    simpa using ew
theorem g_aix (hC : COk X C Γ n) (hS : SOk X S) {i : Nat} {op : Operator} {c e : IE} {x : Str} {kx v : Expr} {px sp pos : Pos} (hx : nmS C S i x = true) (hk : chkE C S c [kx] none = true) (hv : chkE C S e [v] none = true) :
    PS X (.AugAssign (.Subscript (.Name x px) kx sp) op v pos) (rS X.K Γ C.cons FU (.aix i c op e)) := by
  have pv := h_of hC hS hv ((sE e hC hS _ _ hv).1 _ rfl)
  have pk := h_of hC hS hk ((sE c hC hS _ _ hk).1 _ rfl)
  have pl := chk_plain _ _ _ _ hk
  refine ps_mono (ps_augS (pe_nm (p := px) hC hS hx) pk get_list pv (ip_aug op) set_list (by cases kx <;> first | exact absurd pl Bool.false_ne_true | (intros; rfl))) fun D σ H ⟨G, F, env, fl, R, ev, k⟩ => ?_
  obtain ⟨hm, ev⟩ := oite ev
  obtain ⟨p, e1, ev⟩ := obind ev
  obtain ⟨y, e2, ev⟩ := obind ev
  obtain ⟨s0, xs0, a0, b0⟩ := mutAt_of hm
  obtain ⟨pa, vs0, g0, _⟩ := R.mu i s0 xs0 a0 b0
  refine ⟨.ref pa, g0, G, F, env, p.1, p.2, R, e1, fun u H1 F1 R1 E1 q1 => ?_⟩
  split at ev
  · obtain ⟨xs, e3, ev⟩ := obind ev
    obtain ⟨j, e4, ev⟩ := obind ev
    obtain ⟨old, e5, ev⟩ := obind ev
    obtain ⟨q, e6, ev⟩ := obind ev
    obtain ⟨w, e7, ev⟩ := obind ev
    obtain ⟨d, e8, ev⟩ := obind ev
    obtain ⟨ys, e9, ev⟩ := obind ev
    obtain ⟨j', e10, ev⟩ := obind ev
    obtain ⟨e', e11, ev⟩ := obind ev
    cases ev
    cases opd_int (q1.opd R1 e2)
    obtain ⟨s, a1, b1⟩ := atS_of e3
    obtain ⟨pb, vs, g1, f1, h1, dq, _⟩ := R1.mu i s xs a1 b1
    rw [g0] at g1
    cases g1
    obtain ⟨ov, ho, qo⟩ := dpAll_get dq e5
    refine ⟨pa, vs, _, ov, rfl, rfl, .inl (.inl h1), ?_, G, F1, p.2, q.1, q.2, R1, e6, fun t H2 F2 R2 E2 q2 => ?_⟩
    · unfold atI
      rw [dpAll_len dq, e4]
      exact ho
    · refine ⟨F2, old, w, d, R2.sub, .inl (dpMono E2.mono _ qo), q2.opd R2 e7, e8, fun z qz => ?_⟩
      obtain ⟨s', a3, b3⟩ := atS_of e9
      obtain ⟨pc, vs', g3, f3, h3, dq3, _⟩ := R2.mu i s' ys a3 b3
      rw [g0] at g3
      cases g3
      obtain ⟨s2, s'', xs2, a2, b2, c3, c4, rfl⟩ := setS_of e11
      refine ⟨pa, vs', _, j', rfl, rfl, h3, by rw [dpAll_len dq3]; exact e10, ?_⟩
      obtain ⟨R4, E4⟩ := R2.change (s' := s'') a2 b2 g0 h3 c3 c4 (dpAll_set qz j' dq3)
      exact k _ _ _ ((E1.trans E2).trans E4).mono R4
  · cases ev
end
end PF

/-! PF12: the soundness of statements and blocks; defs. -/
namespace PF
open PySem PySem.Spec PyProof.Rows L2
section
variable {X : Cx} {C : Cfg} {S : Sc} {Γ : Tab} {n FU : Nat}
theorem rt_of {K : PySem.W.Frag} {G : Gh} {σ : L2.St} {H F H' F' : Hp} {env : En} {v : V} {r : Sl} (R : Rel K G σ H F env) (q : RV K H H' F' v r) : RT K G H' F' v r := by
  cases r with
  | v d => exact q
  | b ds => exact q
  | o ds =>
    obtain ⟨p, vs, e, h1, h2, h3, h4⟩ := q
    refine ⟨p, vs, e, ?_, h2, h3, h4⟩
    cases z : G.H0 p with
    | none => rfl
    | some o => exact absurd h1 (R.live p (by rw [z]; simp))
  | w ds =>
    obtain ⟨p, vs, e, h1, h2, h3, h4⟩ := q
    refine ⟨p, vs, e, ?_, h2, h3, h4⟩
    cases z : G.H0 p with
    | none => rfl
    | some o => exact absurd h1 (R.live p (by rw [z]; simp))
theorem g_ret {e : IE} {v : Expr} {pos : Pos} (hv : PE X v (rE X.K Γ C.cons e)) : PS X (.Return (some v) pos) (rS X.K Γ C.cons FU (.ret e)) :=
  ps_mono (ps_ret hv) fun D σ H ⟨G, F, env, fl, R, ev, k⟩ => by
    obtain ⟨p, e1, ev⟩ := obind ev
    cases ev
    exact ⟨G, F, env, p.1, p.2, R, e1, fun w H1 F1 R1 E1 q1 => k _ _ _ _ E1.mono R1 (rt_of R q1)⟩
theorem Rel.drop {K : PySem.W.Frag} {G : Gh} {σ : L2.St} {H F : Hp} {env : En} (R : Rel K G σ H F env) (i : Nat) : Rel K G σ H F (env.set i none) := by
  have key : ∀ j s, En.at (env.set i none) j = some s → env.at j = some s := fun j s e => by
    rw [at_set] at e
    split at e
    · cases e
    · exact e
  refine ⟨by rw [List.length_set]; exact R.len, R.sub, R.base, R.fro, R.live, R.new, fun j d e => R.val j d (key j _ e), fun j s ds e => R.mug j s ds (key j _ e), fun j k p n ⟨s, ds, e, m⟩ ⟨s', ds', e', m'⟩ => R.apart j k p n ⟨s, ds, key j _ e, m⟩ ⟨s', ds', key k _ e', m'⟩, R.tabs, R.ent⟩
theorem Rel.wipS {K : PySem.W.Frag} {G : Gh} {σ : L2.St} {H F : Hp} {env : En} (R : Rel K G σ H F env) : ∀ ws : List Nat, Rel K G σ H F (wipeS env ws)
  | [] => R
  | i :: r => (R.wipS r).drop i
theorem g_retx (hC : COk X C Γ n) (hS : SOk X S) {i : Nat} {x : Str} {px pos : Pos} (h : nmS C S i x = true) : PS X (.Return (some (.Name x px)) pos) (rS X.K Γ C.cons FU (.retx i)) :=
  ps_mono (ps_ret (pe_nm hC hS h)) fun D σ H ⟨G, F, env, fl, R, ev, k⟩ => by
    have ev : (match env.at i with
      | some (.o ds) => some (Fl.rt (.o ds) (env.set i none))
      | some (.w ds) => some (Fl.rt (.w ds) (env.set i none))
      | some (.v d) => some (Fl.rt (.v d) env)
      | _ => none) = some fl := ev
    split at ev
    · rename_i ds e0
      cases ev
      obtain ⟨p, vs, a, f, hp, q, b1, _⟩ := R.mu i _ ds e0 rfl
      exact ⟨_, a, k _ _ _ _ (Same.refl _) (R.drop i) ⟨p, vs, rfl, b1 rfl, f, hp, q⟩⟩
    · rename_i ds e0
      cases ev
      obtain ⟨p, vs, a, f, hp, q, b1, _⟩ := R.muD i _ ds e0 rfl
      exact ⟨_, a, k _ _ _ _ (Same.refl _) (R.drop i) ⟨p, vs, rfl, b1 rfl, f, hp, q⟩⟩
    · rename_i d e0
      cases ev
      obtain ⟨v, a, q⟩ := R.val i d e0
      exact ⟨_, a, k _ _ _ _ (Same.refl _) R q⟩
    · cases ev
theorem g_ex {e : IE} {v : Expr} {pos : Pos} (hv : PE X v (rE X.K Γ C.cons e)) (hn : notComp v = true) : PS X (.Expr v pos) (rS X.K Γ C.cons FU (.ex e)) :=
  ps_mono (ps_expr hv (by cases v <;> first | exact absurd hn Bool.false_ne_true | rfl)) fun D σ H ⟨G, F, env, fl, R, ev, k⟩ => by
    obtain ⟨p, e1, ev⟩ := obind ev
    cases ev
    exact ⟨G, F, env, p.1, p.2, R, e1, fun w H1 F1 R1 E1 q1 => k _ _ _ E1.mono R1⟩
theorem g_cond {t : IT} {a b : IB} {z : Expr} {x y : List Stmt} {pos : Pos} (ht : PT X z (rT X.K Γ C.cons t)) (ha : PSs X x (rB X.K Γ C.cons FU a)) (hb : PSs X y (rB X.K Γ C.cons FU b)) : PS X (.If z x y pos) (rS X.K Γ C.cons FU (.cond t a b)) :=
  ps_mono (ps_if ht ha hb) fun D σ H ⟨G, F, env, fl, R, ev, k⟩ => by
    obtain ⟨p, e1, ev⟩ := obind ev
    refine ⟨G, F, env, p.1, p.2, R, e1, fun H1 F1 R1 E1 => ?_⟩
    cases hp : p.1 with
    | true =>
      rw [if_pos hp] at ev
      exact iteT ⟨G, F1, p.2, fl, R1, ev, k.mono E1.mono⟩
    | false =>
      rw [if_neg (by rw [hp]; exact Bool.false_ne_true)] at ev
      exact iteF ⟨G, F1, p.2, fl, R1, ev, k.mono E1.mono⟩
theorem g_for (hC : COk X C Γ n) (hx : X.xe = fun _ _ => False) {g : IG} {it : II} {b : IB} {ws : List Nat} {tg iter : Expr} {body : List Stmt} {pos : Pos} (hi : PI X tg iter (rI X.K Γ C.cons it)) (hg : PG X tg (rG X.K g)) (hb : PSs X body (rB X.K Γ C.cons FU b)) (hf : ∀ x, foldedSetIterable iter X.env x = pure x) :
    PS X (.For tg iter body [] pos) (rS X.K Γ C.cons FU (.for g it b ws)) := by
  refine ps_mono (ps_for (by rw [hx]; exact PassesOwn.never) hC.calm hi hg hb hf) fun D σ H ⟨G, F, env, fl, R, ev, k⟩ => ?_
  obtain ⟨p, e1, ev⟩ := obind ev
  refine ⟨G, F, env, p.1, p.2, R, e1, fun J H1 F1 R1 E1 wd => ?_⟩
  obtain ⟨Gd, Y, wk, wG, wY⟩ := wd.ex
  refine for_it wk (fun i σ2 H2 => ∃ F2 en, Rel X.K G σ2 H2 F2 en ∧ Same F1 F2 ∧ forD (fun d en => (runG g d en).bind fun en1 => (runB Γ C.cons FU b en1).bind fun f => some (wipF ws f)) (p.1.drop i) en = some fl) ⟨F1, wipeS p.2 ws, R1.wipS ws, Same.refl _, ev⟩ ?_ ?_ ?_
  · rintro i σ2 H2 _ ⟨F2, en, R2, m2, _⟩
    exact wG H2 (m2.trans R2.sub)
  · rintro i x σ2 H2 H3 hi2 ⟨F2, en, R2, m2, hc⟩ y
    obtain ⟨F3, m1, m3, m4, nf, fr, d, hd, qd⟩ := wY i H2 x H3 F2 hi2 y m2 R2.sub
    obtain ⟨R3, E3⟩ := R2.grow m1 m3 m4 nf fr
    have hdr : p.1.drop i = d :: p.1.drop (i + 1) := by
      rw [List.drop_eq_getElem_cons hi2]
      rw [List.getElem?_eq_getElem hi2] at hd
      cases hd
      rfl
    rw [hdr] at hc
    obtain ⟨f0, hf2, hc⟩ := obind hc
    obtain ⟨en1, eg, eb0⟩ := obind hf2
    obtain ⟨f, eb, ef0⟩ := obind eb0
    clear eb0
    cases ef0
    refine ⟨G, F3, en, d, en1, R3, qd, eg, fun σ4 R4 _ _ _ => ⟨G, F3, en1, f, R4, eb, ?_⟩⟩
    cases f with
    | nx e => exact fun σ5 H5 F5 m5 R5 => ⟨F5, wipeS e ws, R5.wipS ws, (m2.trans m1).trans m5, hc⟩
    | ct e => exact fun σ5 H5 F5 m5 R5 => ⟨F5, wipeS e ws, R5.wipS ws, (m2.trans m1).trans m5, hc⟩
    | bk e =>
      cases hc
      exact fun σ5 H5 F5 m5 R5 => k σ5 H5 F5 (((E1.mono.trans m2).trans m1).trans m5) (R5.wipS ws)
    | rt r e =>
      cases hc
      exact fun v σ5 H5 F5 m5 R5 q5 => k v σ5 H5 F5 (((E1.mono.trans m2).trans m1).trans m5) R5 q5
  · rintro σ2 H2 ⟨F2, en, R2, m2, hc⟩
    rw [List.drop_length] at hc
    cases hc
    exact k σ2 H2 F2 (E1.mono.trans m2) R2
theorem g_wh (hx : X.xe = fun _ _ => False) {t : IT} {b : IB} {ws : List Nat} {z : Expr} {body : List Stmt} {pos : Pos} (ht : PT X z (rT X.K Γ C.cons t)) (hb : PSs X body (rB X.K Γ C.cons FU b)) : PS X (.While z body [] pos) (rS X.K Γ C.cons FU (.wh t b ws)) := by
  refine ps_mono (ps_while (by rw [hx]; exact PassesOwn.never) ht hb) fun D σ H ⟨G, F, env, fl, R, ev, k⟩ => ?_
  refine ⟨fun m σ2 H2 => ∃ F2 en, Rel X.K G σ2 H2 F2 en ∧ Same F F2 ∧ whileD (fun en => runT Γ C.cons t en) (fun en => (runB Γ C.cons FU b en).bind fun f => some (wipF ws f)) m en = some fl, ⟨FU, F, wipeS env ws, R.wipS ws, Same.refl _, ev⟩, ?_⟩
  rintro m σ2 H2 ⟨F2, en, R2, m2, hc⟩
  cases m with
  | zero => cases hc
  | succ m =>
    obtain ⟨p, e1, hc⟩ := obind hc
    refine ⟨G, F2, en, p.1, p.2, R2, e1, fun H3 F3 R3 E3 => ?_⟩
    cases hp : p.1 with
    | false =>
      rw [if_neg (by rw [hp]; exact Bool.false_ne_true)] at hc
      cases hc
      exact iteF (k σ2 H3 F3 (m2.trans E3.mono) R3)
    | true =>
      rw [if_pos hp] at hc
      obtain ⟨f0, ef1, hc⟩ := obind hc
      obtain ⟨f, ef, ef0⟩ := obind ef1
      clear ef1
      cases ef0
      refine iteT ⟨_, fun σ' H' w => ⟨m, Nat.lt_succ_self m, w⟩, G, F3, p.2, f, R3, ef, ?_⟩
      cases f with
      | nx e => exact fun σ5 H5 F5 m5 R5 => ⟨F5, wipeS e ws, R5.wipS ws, (m2.trans E3.mono).trans m5, hc⟩
      | ct e => exact fun σ5 H5 F5 m5 R5 => ⟨F5, wipeS e ws, R5.wipS ws, (m2.trans E3.mono).trans m5, hc⟩
      | bk e =>
        cases hc
        exact fun σ5 H5 F5 m5 R5 => k σ5 H5 F5 ((m2.trans E3.mono).trans m5) (R5.wipS ws)
      | rt r e =>
        cases hc
        exact fun v σ5 H5 F5 m5 R5 q5 => k v σ5 H5 F5 ((m2.trans E3.mono).trans m5) R5 q5
theorem b_nil : PSs X [] (rB X.K Γ C.cons FU .nil) := pss_mono pss_nil fun D σ H ⟨G, F, env, fl, R, ev, k⟩ => by
  cases ev
  exact k σ H F (Same.refl _) R
theorem b_cons {s : IS} {r : IB} {z : Stmt} {zs : List Stmt} (h1 : PS X z (rS X.K Γ C.cons FU s)) (h2 : PSs X zs (rB X.K Γ C.cons FU r)) : PSs X (z :: zs) (rB X.K Γ C.cons FU (.cons s r)) :=
  pss_mono (pss_cons h1 h2) fun D σ H ⟨G, F, env, fl, R, ev, k⟩ => by
    obtain ⟨f, e1, ev⟩ := obind ev
    refine ⟨G, F, env, f, R, e1, ?_⟩
    cases f with
    | nx e => exact fun σ' H' F' m R' => ⟨G, F', e, fl, R', ev, k.mono m⟩
    | bk e =>
      cases ev
      exact k
    | ct e =>
      cases ev
      exact k
    | rt r e =>
      cases ev
      exact k
end
theorem notT {b : Bool} (h : (!b) = true) : b = false := by
  cases b with
  | true => exact absurd h Bool.false_ne_true
  | false => rfl
mutual
theorem sS {C : Cfg} {Γ : Tab} {n FU : Nat} {X : Cx} {S : Sc} (hC : COk X C Γ n) (hS : SOk X S) (hx : X.xe = fun _ _ => False) : ∀ (s : IS) (z : Stmt), chkS C S s z = true → PS X z (rS X.K Γ C.cons FU s)
  | .set i e, z, h => by
    unfold chkS at h
    split at h
    · obtain ⟨h1, h2, h3⟩ := and3 h
      exact g_set hC hS h1 h2 (notT h3)
    · cases h
  | .tgt gs e, z, h => by
    unfold chkS at h
    split at h
    · obtain ⟨h1, h2, h3⟩ := and3 h
      exact g_tgt hC hS h1 h2 (by simpa using h3)
    · cases h
  | .par2 i j a b, z, h => by
    unfold chkS at h
    split at h
    · obtain ⟨h, h11⟩ := and2 h
      obtain ⟨h, h10⟩ := and2 h
      obtain ⟨h, h9⟩ := and2 h
      obtain ⟨h, h8⟩ := and2 h
      obtain ⟨h, h7⟩ := and2 h
      obtain ⟨h, h6⟩ := and2 h
      obtain ⟨h, h5⟩ := and2 h
      obtain ⟨h, h4⟩ := and2 h
      obtain ⟨h1, h2, h3⟩ := and3 h
      exact g_par2 hC hS (by rw [hC.N]; exact of_decide_eq_true h1) (by rw [hC.N]; exact of_decide_eq_true h2) (of_decide_eq_true h3) (of_decide_eq_true h4) (of_decide_eq_true h5) (of_decide_eq_true h6) (notT h7) (notT h8) (of_decide_eq_true h9) h10 h11
    · cases h
  | .par3 i j l a b c, z, h => by
    unfold chkS at h
    split at h
    · obtain ⟨h, g17⟩ := and2 h
      obtain ⟨h, g16⟩ := and2 h
      obtain ⟨h, g15⟩ := and2 h
      obtain ⟨h, g14⟩ := and2 h
      obtain ⟨h, g13⟩ := and2 h
      obtain ⟨h, g12⟩ := and2 h
      obtain ⟨h, g11⟩ := and2 h
      obtain ⟨h, g10⟩ := and2 h
      obtain ⟨h, g9⟩ := and2 h
      obtain ⟨h, g8⟩ := and2 h
      obtain ⟨h, g7⟩ := and2 h
      obtain ⟨h, g6⟩ := and2 h
      obtain ⟨h, g5⟩ := and2 h
      obtain ⟨h, g4⟩ := and2 h
      obtain ⟨g1, g2, g3⟩ := and3 h
      exact g_par3 hC hS (by rw [hC.N]; exact of_decide_eq_true g1) (by rw [hC.N]; exact of_decide_eq_true g2) (by rw [hC.N]; exact of_decide_eq_true g3) (of_decide_eq_true g4) (of_decide_eq_true g5) (of_decide_eq_true g6) (of_decide_eq_true g7) (of_decide_eq_true g8)
        (of_decide_eq_true g9) (of_decide_eq_true g10) (of_decide_eq_true g11) (notT g12) (notT g13) (of_decide_eq_true g14) g15 g16 g17
    · cases h
  | .parn is es, z, h => by
    unfold chkS at h
    split at h
    · obtain ⟨h, h4⟩ := and2 h
      obtain ⟨h1, h2, h3⟩ := and3 h
      exact g_parn hC hS h1 h2 (of_decide_eq_true h3) (by simpa using h4)
    · cases h
  | .six i k e, z, h => by
    unfold chkS at h
    split at h
    · obtain ⟨h1, h2, h3⟩ := and3 h
      exact g_six hC hS h1 h2 h3
    · cases h
  | .aug i op e, z, h => by
    unfold chkS at h
    split at h
    · obtain ⟨h1, h2, h3⟩ := and3 h
      cases of_decide_eq_true h2
      exact g_aug hC hS h1 h3
    · cases h
  | .aix i k op e, z, h => by
    unfold chkS at h
    split at h
    · obtain ⟨h, h4⟩ := and2 h
      obtain ⟨h1, h2, h3⟩ := and3 h
      cases of_decide_eq_true h3
      exact g_aix hC hS h1 h2 h4
    · cases h
  | .ret e, z, h => by
    unfold chkS at h
    split at h
    · exact g_ret ((sE e hC hS _ _ h).1 _ rfl)
    · cases h
  | .retx i, z, h => by
    unfold chkS at h
    split at h
    · exact g_retx hC hS h
    · cases h
  | .retn, z, h => by
    unfold chkS at h
    split at h
    · exact ps_mono ps_retN fun D σ H ⟨G, F, env, fl, R, ev, k⟩ => by
        cases ev
        exact k _ _ _ _ (Same.refl _) R .non
    · cases h
  | .ex e, z, h => by
    unfold chkS at h
    split at h
    · obtain ⟨h1, h2⟩ := and2 h
      exact g_ex ((sE e hC hS _ _ h1).1 _ rfl) h2
    · cases h
  | .cond t a b, z, h => by
    unfold chkS at h
    split at h
    · obtain ⟨h1, h2, h3⟩ := and3 h
      exact g_cond ((sT t hC hS _ _ h1).1 _ rfl) (sB hC hS hx a _ h2) (sB hC hS hx b _ h3)
    · cases h
  | .for g it b ws, z, h => by
    unfold chkS at h
    split at h
    · obtain ⟨h1, h2, h3⟩ := and3 h
      exact g_for hC hx (sI it hC hS _ _ h1) (sG hC hS g _ h2) (sB hC hS hx b _ h3) (fun x => chkI_folded it h1 X.env x)
    · cases h
  | .wh t b ws, z, h => by
    unfold chkS at h
    split at h
    · obtain ⟨h1, h2⟩ := and2 h
      exact g_wh hx ((sT t hC hS _ _ h1).1 _ rfl) (sB hC hS hx b _ h2)
    · cases h
  | .brk, z, h => by
    unfold chkS at h
    split at h
    · exact ps_mono ps_break fun D σ H ⟨G, F, env, fl, R, ev, k⟩ => by
        cases ev
        exact k _ _ _ (Same.refl _) R
    · cases h
  | .cnt, z, h => by
    unfold chkS at h
    split at h
    · exact ps_mono ps_continue fun D σ H ⟨G, F, env, fl, R, ev, k⟩ => by
        cases ev
        exact k _ _ _ (Same.refl _) R
    · cases h
  | .pass, z, h => by
    unfold chkS at h
    split at h
    · exact ps_mono ps_pass fun D σ H ⟨G, F, env, fl, R, ev, k⟩ => by
        cases ev
        exact k _ _ _ (Same.refl _) R
    · cases h
  | .dput i c e, z, h => by
    unfold chkS at h
    split at h
    · obtain ⟨h1, h2, h3⟩ := and3 h
      exact g_dput hC hS h1 h2 h3
    · cases h
  | .nev, z, h => ps_mono ps_never fun D σ H ⟨G, F, env, fl, R, ev, k⟩ => by cases ev
theorem sB {C : Cfg} {Γ : Tab} {n FU : Nat} {X : Cx} {S : Sc} (hC : COk X C Γ n) (hS : SOk X S) (hx : X.xe = fun _ _ => False) : ∀ (b : IB) (zs : List Stmt), chkB C S b zs = true → PSs X zs (rB X.K Γ C.cons FU b)
  | .nil, zs, h => by
    cases zs with
    | nil => exact b_nil
    | cons _ _ => exact absurd h Bool.false_ne_true
  | .cons s r, zs, h => by
    cases zs with
    | nil => exact absurd h Bool.false_ne_true
    | cons z zs =>
      obtain ⟨h1, h2⟩ := and2 h
      exact b_cons (sS hC hS hx s z h1) (sB hC hS hx r zs h2)
end
end PF

/-! PF13: a def of the text does what runFn tells; the whole program; the law's end. -/
namespace PF
open PySem PySem.Spec PyProof.Rows L2
/-- the names, the parameters first -/
def scopeOk (N ps : List Str) (sc : Scope) : Bool :=
  decide (sc.kind = .function) && !sc.isCoroutine && !sc.isGenerator && decide N.Nodup && decide (N.take ps.length = ps) && (ps.all fun x => match sc.names.lookup x with
    | some .local => true
    | some .cell => true
    | _ => false) && (sc.names.all fun y => decide (y.2 ≠ .free))
theorem scope_of {N ps : List Str} {sc : Scope} (h : scopeOk N ps sc = true) : FnScope N ps sc := by
  unfold scopeOk at h
  obtain ⟨h, h7⟩ := and2 h
  obtain ⟨h, h6⟩ := and2 h
  obtain ⟨h, h5⟩ := and2 h
  obtain ⟨h, h4⟩ := and2 h
  obtain ⟨h1, h2, h3⟩ := and3 h
  refine ⟨of_decide_eq_true h1, notT h2, notT h3, of_decide_eq_true h4, of_decide_eq_true h5, fun x hx => ?_, fun y hy => of_decide_eq_true (List.all_eq_true.mp h7 y hy)⟩
  have := List.all_eq_true.mp h6 x hx
  split at this
  · exact .inl (by assumption)
  · exact .inr (by assumption)
  · cases this
def plainArgs (ps : List Str) (a : Arguments) : Bool := a.posonlyargs.isEmpty && decide (a.args.map (·.arg) = ps) && a.vararg.isNone && a.kwonlyargs.isEmpty && a.kw_defaults.isEmpty && a.kwarg.isNone && a.defaults.isEmpty
/-- a def of the text is this one of the small language -/
def chkD (fns : List Str) (cons : List (Str × PyData)) (f : Fn) (st : Stmt) : Bool :=
  scopeOk f.N f.ps (defScope st) && chkB ⟨f.N, fns, cons⟩ ⟨defScope st, fun _ => true⟩ f.body (defBody st)
section
variable {K : PySem.W.Frag}
theorem start_at {vs : List V} {as : List Sl} {m : Nat} (i : Nat) : (startE m as).at i = as[i]? := by
  unfold startE En.at
  rw [List.getElem?_append, List.length_map]
  split
  · rename_i h
    rw [List.getElem?_map, List.getElem?_eq_getElem h]
    rfl
  · rename_i h
    rw [List.getElem?_replicate, List.getElem?_eq_none (by omega)]
    split <;> rfl
theorem paired_get' {α β : Type} {R : α → β → Prop} : ∀ {l : List α} {m : List β} {i : Nat} {b : β}, Paired R l m → m[i]? = some b → ∃ a, l[i]? = some a ∧ R a b
  | _, _, _, _, .nil, h => by simp at h
  | _, _, 0, _, .cons a t, h => by
    cases h
    exact ⟨_, rfl, a⟩
  | _, _, i + 1, b, .cons a t, h => by
    obtain ⟨x, e, q⟩ := paired_get' (i := i) t (by simpa using h)
    exact ⟨x, by simpa using e, q⟩
theorem outA_at : ∀ (as : List Sl) (env : En) (l : List PyData), outA as env = some l → ∀ i d, as[i]? = some (.b d) → (∀ (i j : Nat) (d e : List PyData), as[i]? = some (.b d) → as[j]? = some (.b e) → i = j) → env.at i = some (.b l)
  | [], _, _, _, i, d, h, _ => by simp at h
  | .v z :: r, env, l, e, i, d, h, u => by
    cases i with
    | zero => cases h
    | succ i =>
      have := outA_at r env.tail l e i d h fun i j d e a b => by
        have := u (i + 1) (j + 1) d e a b
        omega
      unfold En.at at this ⊢
      rw [List.getElem?_tail] at this
      exact this
  | .o _ :: _, _, _, e, _, _, _, _ => by cases e
  | .b z :: r, env, l, e, i, d, h, u => by
    have h0 := u 0 i z d rfl h
    subst h0
    have e : (match (env.head?).join with
      | some (.b ds) => some ds
      | _ => none) = some l := e
    split at e
    · rename_i ds hd
      cases e
      unfold En.at
      rw [← List.head?_eq_getElem?]
      exact hd
    · cases e
end
/-- THE DEF: it does what runFn tells -/
theorem fn_G {P : Program} {w : World} {K : PySem.W.Frag} {mg : Str → Option Value} {base : Heap} {fns : List Str} {cons : List (Str × PyData)} {f : Fn} {st : Stmt} {qual : Str} {a : Addr} {fd : FuncData} {Γ : Tab} {n FU : Nat}
    (FF : Fun K f.name qual st a fd) (hc : chkD fns cons f st = true) (hblt : ∀ x ∈ blts, mg x = none) (hcons : ∀ x d, cons.lookup x = some d → ∃ u v, mg x = some u ∧ RelV v u ∧ ∀ F, Dq K F v d)
    (hfns : ∀ g x, fns[g]? = some x → ∃ b, mg x = some (.ref b) ∧ FnP P w K mg base n b (Γ g)) :
    FnG P w K mg base (n + 1) a fd f.ps (runFn Γ cons FU f) := by
  unfold chkD at hc
  obtain ⟨hc1, hc2⟩ := and2 hc
  have SC := scope_of hc1
  obtain ⟨oc, od, kV, doc, pm, an, cdv, ct, osl, rfl, lk, hcd⟩ := FF.ex
  have hlen : ∀ as r, runFn Γ cons FU f as = some r → as.length = f.ps.length := fun as r e => by
    unfold runFn at e
    exact (oite e).1
  refine ⟨hlen, fun A outer s H args us vs Q hr hg e0 hb rv hsp => ?_⟩
  obtain ⟨F, as, r, l, sm, en, pa, uni, eg, post⟩ := hsp
  have hl : vs.length = f.ps.length := by rw [paired_len pa, hlen as _ eg]
  have KX : K.In s.heap := e0.mod.kin.keeps fun b o e => (e0.bs b o e).1
  have lim : s.heap.NoLimit := e0.mod.nolimit.keeps fun b o e => (e0.bs b o e).1
  have hkind : ∀ y ∈ f.ps.zip us, (defScope st).names.lookup y.1 = some .local ∨ ((defScope st).names.lookup y.1 = some .cell ∧ ((cellsFrom (s.heap.objs.size + 1) (defScope st).names []).lookup y.1).isSome = true) := fun ⟨m, v⟩ hy => by
    rcases SC.par m (List.of_mem_zip hy).1 with q | q
    · exact .inl q
    · exact .inr ⟨q, PySem.W.cellsFrom_some _ _ _ (.inl q)⟩
  refine codeAny_call_function hr.depth (KX _ _ lk) rfl SC.co SC.gen rfl (PySem.W.codeRec_of KX hcd) (hb _ _ _ _ ?_)
  refine wpAny_newFunctionEnv_cells SC.kind hkind fun env he s1 x => ?_
  subst he
  refine ⟨lim.keeps x.toInCall.keep, codeAny_func ?_⟩
  have I : L2.Inv (cxOf CX0 P w K mg base f.N qual (defScope st) a cdv A outer s H E0) [] (L2.start f.N vs) H s1 := inv_start SC hr.hd e0 hl rv x
  -- the context without exceptions
  have hC : COk (cxOf CX0 P w K mg base f.N qual (defScope st) a cdv A outer s H E0).nox ⟨f.N, fns, cons⟩ Γ n :=
    ⟨rfl, rfl, SC.nd, hr.deeper _, hg, hblt, hcons, hfns⟩
  have hS : SOk (cxOf CX0 P w K mg base f.N qual (defScope st) a cdv A outer s H E0).nox ⟨defScope st, fun _ => true⟩ := ⟨rfl, fun _ _ => rfl⟩
  have body := (sB (FU := FU) hC hS rfl f.body (defBody st) hc2).nox
  -- the entry
  unfold runFn at eg
  obtain ⟨hal, eg⟩ := oite eg
  obtain ⟨fl, ef, eg⟩ := obind eg
  have hps : f.ps.length ≤ f.N.length := by
    have := congrArg List.length SC.pre
    rw [List.length_take] at this
    omega
  have hσ : ∀ (i : Nat) (v : V), vs[i]? = some v → (L2.start f.N vs)[i]? = some (some v) := fun i v e => by
    have hi : i < vs.length := (List.getElem?_eq_some_iff.mp e).1
    unfold L2.start
    rw [List.getElem?_append_left (by rw [List.length_map]; exact hi), List.getElem?_map, e]
    rfl
  have R : Rel K ⟨H, F, fun i p => ∃ d, as[i]? = some (.b d) ∧ vs[i]? = some (.ref p)⟩ (L2.start f.N vs) H F (startE f.N.length as) := by
    refine ⟨?_, sm, Same.refl _, fun b o e _ _ => e, fun b e => e, fun b e => .inl e, fun i d e => ?_, fun i t ds e hm => ?_, fun i j p ne z1 z2 _ _ => ?_, Tm.refl _, en.start⟩
    · unfold startE L2.start
      rw [List.length_append, List.length_map, List.length_replicate, List.length_append, List.length_map, List.length_replicate, paired_len pa]
    · rw [start_at (vs := vs)] at e
      obtain ⟨v, ev, q⟩ := paired_get' pa e
      exact ⟨v, hσ i v ev, q⟩
    · rw [start_at (vs := vs)] at e
      obtain ⟨v, ev, q⟩ := paired_get' pa e
      cases t with
      | v d => cases hm
      | o ds => exact q.elim
      | w ds => exact q.elim
      | b ds =>
        cases hm
        obtain ⟨p, ws, rfl, q1, q2, q3⟩ := q
        exact ⟨p, .lst ws, hσ i _ ev, q1, q2, q3, fun z => absurd z.symm Bool.false_ne_true, fun _ => ⟨_, e, ev⟩⟩
    · obtain ⟨t1, d1, e1, m1⟩ := z1
      obtain ⟨t2, d2, e2, m2⟩ := z2
      rw [start_at (vs := vs)] at e1 e2
      have isb : ∀ (i : Nat) (t : Sl) (d : Ob), as[i]? = some t → t.m = some d → ∃ d, as[i]? = some (.b d) := fun i t d e m => by
        obtain ⟨v, _, q⟩ := paired_get' pa e
        cases t with
        | v _ => cases m
        | o _ => exact q.elim
        | w _ => exact q.elim
        | b d => exact ⟨d, e⟩
      obtain ⟨d1, b1⟩ := isb i t1 d1 e1 m1
      obtain ⟨d2, b2⟩ := isb j t2 d2 e2 m2
      exact ne (uni i j d1 d2 b1 b2)
  -- the end
  have fin : ∀ (r' : Sl) (env' : En) (v : V) (σ' : L2.St) (H' F' : Hp), (outA as env').bind (fun l => some (r', l)) = some (r, l) → Same F F' → Rel K ⟨H, F, fun i p => ∃ d, as[i]? = some (.b d) ∧ vs[i]? = some (.ref p)⟩ σ' H' F' env' →
      RT K ⟨H, F, fun i p => ∃ d, as[i]? = some (.b d) ∧ vs[i]? = some (.ref p)⟩ H' F' v r' → Q v H' := fun r' env' v σ' H' F' eo m R' q => by
    obtain ⟨l', ho, eo⟩ := obind eo
    cases eo
    refine post v H' F' ⟨m, R'.sub, fun b o e nt n => R'.fro b o e nt fun i ⟨d, z1, z2⟩ => n ⟨i, d, z1, z2⟩, R'.live, R'.new, ?_, fun p ⟨i, d, z1, z2⟩ => ?_, R'.tabs⟩
    · cases r with
      | v d => exact q
      | b ds => exact q
      | o ds => exact q
      | w ds => exact q
    · have hb' := outA_at as env' l ho i d z1 uni
      obtain ⟨p', ws, _, q1, q2, q3, _, q4⟩ := R'.mu i _ l hb' rfl
      obtain ⟨d', _, z3⟩ := q4 rfl
      rw [z2] at z3
      cases z3
      exact ⟨q1, ws, q2, q3⟩
  have ends : EndOk K ⟨H, F, fun i p => ∃ d, as[i]? = some (.b d) ∧ vs[i]? = some (.ref p)⟩ F { nx := fun _ H' => Q .non H', rt := Q } fl := by
    cases fl with
    | nx e => exact fun σ' H' F' m R' => fin _ e .non σ' H' F' eg m R' .non
    | rt r' e => exact fun v σ' H' F' m R' q => fin r' e v σ' H' F' eg m R' q
    | bk e => cases eg
    | ct e => cases eg
  refine wpAny_mono (body.run [] s1 (L2.start f.N vs) H _ I ⟨_, F, _, fl, R, ef, ends⟩) (fun fl s' hs => ?_) fun e s' hs => hs
  have back : ∀ {σ' : L2.St} {H' : Hp} {v : V} {u : Value}, L2.Inv (cxOf CX0 P w K mg base f.N qual (defScope st) a cdv A outer s H E0) [] σ' H' s' → RelV v u → Q v H' → CE outer P w H s Q u s' :=
    fun {σ' H' v u} J rv q => ⟨v, H', J.os, J.bare, J.base, J.hok, rv, q⟩
  cases fl with
  | ret u =>
    obtain ⟨v, σ', H', J, rv, q⟩ := hs
    exact back J rv q
  | next =>
    obtain ⟨σ', H', J, q⟩ := hs
    exact back (v := V.non) (u := Value.none) J rfl q
  | brk =>
    obtain ⟨_, _, _, q⟩ := hs
    exact False.elim q
  | cont =>
    obtain ⟨_, _, _, q⟩ := hs
    exact False.elim q
end PF

/-! PTH: a list that a def hands out is new, where nothing that it was given holds a list. -/
namespace PF
open PySem PySem.Spec PyProof.Rows L2
def noLB (K : PySem.W.Frag) : Bool := K.all fun x => !(x.2.cls == .type "list")
/-- no list is written in the module's part -/
def NoL (K : PySem.W.Frag) : Prop := ∀ p its n, K.lookup p ≠ some { cls := .type "list", data := .seq its n }
theorem lookup_mem {α β : Type} [BEq α] [LawfulBEq α] : ∀ {l : List (α × β)} {a : α} {b : β}, l.lookup a = some b → (a, b) ∈ l
  | [], _, _, h => by cases h
  | (x, y) :: r, a, b, h => by
    rw [List.lookup_cons] at h
    split at h
    · rename_i e
      cases h
      rw [eq_of_beq e]
      exact List.mem_cons_self
    · exact List.mem_cons_of_mem _ (lookup_mem h)
theorem noL_of {K : PySem.W.Frag} (h : noLB K = true) : NoL K := fun p its n e => by
  have := List.all_eq_true.mp h _ (lookup_mem e)
  have z : (!((Value.type "list") == Value.type "list")) = true := this
  rw [beq_self_eq_true] at z
  cases z
/-- no list, frozen or not -/
def NLi (o : HO) : Prop := (∀ vs, o ≠ .lst vs) ∧ NL o
section
variable {K : PySem.W.Frag}
mutual
theorem dqN {F F' : Hp} (t : ∀ p u, F p = some u → NLi u → F' p = some u) : ∀ (d : PyData) {v : V}, nls d = true → Dq K F v d → Dq K F' v d
  | .none, _, _, h => by
    cases h
    exact .non
  | .bool b, _, _, h => by
    cases h
    exact .bl b
  | .int i, _, _, h => by
    cases h
    exact .int i
  | .str x, _, _, h => by
    cases h
    exact .str x
  | .list ds, _, z, _ => by
    unfold nls at z
    cases z
  | .tuple ds, _, z, h => by
    unfold nls at z
    cases h with
    | tup h1 h2 =>
      refine .tup ?_ (dqAllN t ds z h2)
      rcases h1 with (h1 | ⟨o, h1⟩) | h1
      · exact .inl (.inl (t _ _ h1 ⟨fun _ e => (by cases e), fun _ _ e => (by cases e)⟩))
      · exact .inl (.inr ⟨o, t _ _ h1 ⟨fun _ e => (by cases e), fun _ _ e => (by cases e)⟩⟩)
      · exact .inr h1
  | .dict es, _, z, h => by
    unfold nls at z
    cases h with
    | dct h1 h2 =>
      refine .dct ?_ (dqKVN t es z h2)
      rcases h1 with h1 | ⟨o, h1⟩
      · exact .inl (t _ _ h1 ⟨fun _ e => (by cases e), fun _ _ e => (by cases e)⟩)
      · exact .inr ⟨o, t _ _ h1 ⟨fun _ e => (by cases e), fun _ _ e => (by cases e)⟩⟩
    | fnc h1 => exact .fnc h1
theorem dqAllN {F F' : Hp} (t : ∀ p u, F p = some u → NLi u → F' p = some u) : ∀ (ds : List PyData) {vs : List V}, nlsA ds = true → DqAll K F vs ds → DqAll K F' vs ds
  | [], _, _, h => by
    cases h
    exact .nil
  | d :: ds, _, z, h => by
    unfold nlsA at z
    rw [Bool.and_eq_true] at z
    cases h with
    | cons h1 h2 => exact .cons (dqN t d z.1 h1) (dqAllN t ds z.2 h2)
theorem dqKVN {F F' : Hp} (t : ∀ p u, F p = some u → NLi u → F' p = some u) : ∀ (es : List (PyData × PyData)) {ps : List (L2.Key × V)}, nlsK es = true → DqKV K F ps es → DqKV K F' ps es
  | [], _, _, h => by
    cases h
    exact .nil
  | (_, e) :: es, _, z, h => by
    unfold nlsK at z
    rw [Bool.and_eq_true] at z
    cases h with
    | cons h0 h1 h2 => exact .cons h0 (dqN t e z.1 h1) (dqKVN t es z.2 h2)
end
/-- the frozen part less its lists -/
noncomputable def lessL (F : Hp) : Hp := fun b => match F b with
  | some (.lst _) => none
  | some (.frz _ (.lst _)) => none
  | x => x
theorem lessL_of {F : Hp} {b : Addr} {o : HO} (h : F b = some o) (n : NLi o) : lessL F b = some o := by
  unfold lessL
  rw [h]
  split
  · rename_i e
    cases e
    exact absurd rfl (n.1 _)
  · rename_i e
    cases e
    exact absurd rfl (n.2 _ _)
  · rfl
theorem lessL_some {F : Hp} {b : Addr} {o : HO} (h : lessL F b = some o) : F b = some o ∧ NLi o := by
  unfold lessL at h
  split at h
  · cases h
  · cases h
  · rename_i h1 h2
    exact ⟨h, fun vs e => h1 vs (by rw [h, e]), fun x vs e => h2 x vs (by rw [h, e])⟩
theorem lessL_none {F : Hp} {b : Addr} (h : F b = none) : lessL F b = none := by
  cases e : lessL F b with
  | none => rfl
  | some o =>
    rw [(lessL_some e).1] at h
    cases h
theorem args_thaw {F H : Hp} : ∀ {vs : List V} {as : List Sl}, plainAs as = true → (as.all fun s => nls s.d) = true → Paired (ArgR K F H) vs as → Paired (ArgR K (lessL F) H) vs as
  | _, [], _, _, .nil => .nil
  | _, .v d :: r, h, z, .cons a t => by
    rw [List.all_cons, Bool.and_eq_true] at z
    exact .cons (dqN (fun p u e n => lessL_of e n) d z.1 a) (args_thaw h z.2 t)
  | _, .o _ :: _, h, _, _ => by cases h
  | _, .b _ :: _, h, _, _ => by cases h
  | _, .w _ :: _, h, _, _ => by cases h
theorem plain_at : ∀ {as : List Sl} {i : Nat} {d : List PyData}, plainAs as = true → as[i]? = some (.b d) → False
  | [], i, d, _, e => by simp at e
  | .v _ :: r, 0, d, _, e => by cases e
  | .v _ :: r, i + 1, d, h, e => plain_at (as := r) (i := i) h (by simpa using e)
  | .o _ :: _, _, _, h, _ => by cases h
  | .b _ :: _, _, _, h, _ => by cases h
  | .w _ :: _, _, _, h, _ => by cases h
theorem spF_thaw (hK : NoL K) {g : DefG} {vs : List V} {H : Hp} {Q : VK} (h : spF K (fun as => thwD as (g as)) vs H Q) : spF K g vs H Q := by
  obtain ⟨F, as, r, l, sm, en, pa, uni, eg, post⟩ := h
  have eg : thwD as (g as) = some (r, l) := eg
  cases e : g as with
  | none =>
    rw [e] at eg
    cases eg
  | some q =>
    obtain ⟨r0, l0⟩ := q
    rw [e] at eg
    by_cases hl : ∃ ds, r0 = .v (.list ds)
    · obtain ⟨ds, rfl⟩ := hl
      have eg : (if plainAs as = true ∧ (as.all fun s => nls s.d) = true ∧ nlsA ds = true then some (Sl.o ds, l0) else none) = some (r, l) := eg
      obtain ⟨⟨hp, ha, hd⟩, eg⟩ := oite eg
      cases eg
      refine ⟨lessL F, as, _, _, fun b o z => sm b o (lessL_some z).1, ⟨en.1, fun P q z => lessL_none (en.2 P q z)⟩, args_thaw hp ha pa, uni, e, fun v H' F' P => ?_⟩
      have nolent : ∀ b, ¬ LentAt vs as b := fun b ⟨i, d, z, _⟩ => plain_at hp z
      cases P.res with
      | @lst p ws _ h1 h2 =>
        have hm0 : ∀ {u : HO}, F' p = some u → ¬ NLi u → H p = none := fun {u} e1 n1 => by
          rcases P.fresh p (by rw [e1]; simp) with z | z
          · cases e2 : lessL F p with
            | none => exact absurd e2 z
            | some o =>
              have e3 := P.mono p o e2
              rw [e1] at e3
              cases e3
              exact absurd (lessL_some e2).2 n1
          · exact z
        have hF' : F' p = some (.lst ws) ∧ H p = none := by
          rcases h1 with (h1 | ⟨o, h1⟩) | ⟨its, n, h1, _⟩
          · exact ⟨h1, hm0 h1 fun z => z.1 _ rfl⟩
          · have a := hm0 h1 fun z => z.2 _ _ rfl
            have b := P.tabs.2 p o ws (P.sub _ _ h1)
            rw [a] at b
            cases b
          · exact absurd h1 (hK _ _ _)
        obtain ⟨hF', hH⟩ := hF'
        have hFp : F p = none := sm.free hH
        have F2 : ∃ F2 : Hp, F2 p = none ∧ ∀ b, b ≠ p → F2 b = (match F b with
          | some o => some o
          | none => F' b) := by
          classical
          exact ⟨fun b => if b = p then none else (match F b with
            | some o => some o
            | none => F' b), if_pos rfl, fun b hb => if_neg hb⟩
        obtain ⟨F2, f1, f2⟩ := F2
        have both : ∀ b o, F b = some o → H' b = some o := fun b o eb => by
          by_cases n : NLi o
          · exact P.sub b o (P.mono b o (lessL_of eb n))
          · refine P.keep b o (sm b o eb) (fun ps z => n ?_) (nolent b)
            subst z
            exact ⟨fun _ y => (by cases y), fun _ _ y => (by cases y)⟩
        have nep : ∀ b o, F b = some o → b ≠ p := fun b o eb y => by
          rw [y, hFp] at eb
          cases eb
        refine post (.ref p) H' F2 ⟨fun b o eb => ?_, fun b o eb => ?_, P.keep, P.live, fun b eb => ?_, ⟨p, ws, rfl, hH, f1, P.sub _ _ hF', dqAllN (fun b u eb n => ?_) ds hd h2⟩, fun q z => absurd z (nolent q), P.tabs⟩
        · rw [f2 b (nep b o eb), eb]
        · by_cases hb : b = p
          · rw [hb, f1] at eb
            cases eb
          · rw [f2 b hb] at eb
            split at eb
            · rename_i o2 e2
              cases eb
              exact both b _ e2
            · exact P.sub b o eb
        · by_cases hb : b = p
          · rw [hb, f1] at eb
            exact absurd rfl eb
          · rw [f2 b hb] at eb
            split at eb
            · rename_i o2 e2
              rw [e2]
              exact .inl (by simp)
            · rcases P.fresh b eb with z | z
              · cases e3 : lessL F b with
                | none => exact absurd e3 z
                | some o =>
                  rw [(lessL_some e3).1]
                  exact .inl (by simp)
              · exact .inr z
        · have hb : b ≠ p := fun y => by
            rw [y, hF'] at eb
            cases eb
            exact n.1 _ rfl
          rw [f2 b hb]
          split
          · rename_i o2 e2
            have q1 := both b o2 e2
            rw [P.sub b u eb] at q1
            exact q1.symm
          · exact eb
    · have eg2 : some (r0, l0) = some (r, l) := by
        rw [← eg]
        unfold thwD
        split
        · rename_i z
          cases z
          exact absurd ⟨_, rfl⟩ hl
        · rfl
      cases eg2
      exact ⟨F, as, _, _, sm, en, pa, uni, e, post⟩
theorem thw_some {as : List Sl} {q : Option (Sl × List PyData)} {r : Sl × List PyData} (h : thwD as q = some r) : ∃ r', q = some r' := by
  cases q with
  | none => cases h
  | some r' => exact ⟨r', rfl⟩
theorem FnG.thaw {P : Program} {w : World} {mg : Str → Option Value} {base : Heap} {n : Nat} {a : Addr} {fd : FuncData} {ps : List Str} {g : DefG} (hK : NoL K) (h : FnG P w K mg base n a fd ps g) : FnG P w K mg base n a fd ps (fun as => thwD as (g as)) :=
  ⟨fun as r e => let ⟨r', e'⟩ := thw_some e; h.len as r' e', fun A outer s H args us vs Q hr hg e0 hb rv sp => h.run A outer s H args us vs Q hr hg e0 hb rv (spF_thaw hK sp)⟩
end
end PF

set_option maxHeartbeats 4000000
/-! PX1: T.__init__(self, ..) of an own class T whose __init__ is ValueError's. -/
namespace PF
open PySem PySem.Spec PyProof.Rows L2
section
variable {X : Cx} {e : Expr} {es : List Expr} {ta : TA} {p1 p2 pos : Pos} {nm : Str} {T : Addr}
theorem pe_teinit {pl : Sem Bool} (hg : Gl X nm) (hm : X.mg nm = some (.ref T)) (hdb : (nm == ("__debug__" : Str)) = false) (hk : PySem.W.keepIn X.K (.ref T) = true) (tT : PySem.W.typeIn X.K (.ref T) = some (.type "type")) (rT : PySem.W.readsIn X.K T (.type "type") = true)
    (gT : PySem.W.specialIn X.K (.ref T) "__getattribute__" = some (some (.builtin "type.__getattribute__")))
    (vV : PySem.W.findCls X.K (.ref T) (.type "type") "__init__" = some (.val (.builtin "ValueError.__init__"))) (ha : PA X (e :: es) ta)
    (hc : eval (.Call (.Attribute (.Name nm p1) "__init__" p2) (e :: es) [] pos) X.env = (do
      let ov ← eval (.Name nm p1) X.env
      standAt p2.atName
      let (f, first) ← holding [ov] (getMethod ov "__init__" pl)
      callWith pos f first (backTo pos (starEach (e :: es) X.env)) (backToKw pos (keywordEach [] X.env))) := by rfl)
    (he : starEach (e :: es) X.env = (false, eval e X.env) :: starEach es X.env := by rfl) (hpl : (backTo pos (starEach es X.env)).any (·.1) = false := by rfl) :
    PE X (.Call (.Attribute (.Name nm p1) "__init__" p2) (e :: es) [] pos) (tVeI X.K ta) := by
  refine ⟨fun pins s σ H Q I h => ?_⟩
  refine PySem.W.methodCall_KW (ld_glob I hg hm ?_ hdb) hc
  obtain ⟨m, fr⟩ := I.fr
  refine PySem.W.method_of_cls fr I.ok.mod.kin gT (PySem.W.cls_val fr I.ok.mod.kin tT rT vV (by decide +kernel) ?_)
  show wpAny _ _ (callWith pos (Value.builtin "ValueError.__init__") [] (backTo pos (starEach (e :: es) X.env)) []) _ _ _
  refine PyProof.Rows.callWith_method1 (thn (ha.run pos pins _ σ H _ (I.tok _) h) fun us s1 ⟨vs, H1, I1, r1, a, C, ws, ev, hl, T, ea, q⟩ => ?_) he hpl
  subst ev
  cases r1 with
  | @cons _ u0 _ ur ra rw' =>
    obtain rfl : u0 = Value.ref a := ra
    have hlen : ur.length ≤ sizeLine := by
      rw [← Paired.length rw', sizeLine_eq]
      omega
    exact oinit_ok T I1 ea hlen fun s' J => ⟨.non, H1, J, rfl, q⟩
end
end PF

set_option maxHeartbeats 4000000
/-! PX2: an own error of one field: its class, its __init__, raising it. -/
namespace PF
open PySem PySem.Spec PyProof.Rows L2
def initS : Stmt → Stmt
  | .ClassDef _ _ _ (s :: _) _ _ _ _ _ _ _ => s
  | s => s
/-- base.__init__(self, fld); self.fld = fld -/
def chkInit (c : Xc) (st : Stmt) : Bool :=
  scopeOk [("self" : Str), c.fld] [("self" : Str), c.fld] (defScope st) && decide ((defScope st).names.lookup ("self" : Str) = some .local) && decide ((defScope st).names.lookup c.fld = some .local) && decide ((defScope st).names.lookup c.base = some .globalImplicit) &&
    !(c.base == ("__debug__" : Str)) && okN c.fld && decide (c.fld ≠ "self") &&
    (match defBody st with
    | [.Expr (.Call (.Attribute (.Name b _) i p2) [.Name s1 _, .Name f1 _] [] p3) _, .Assign [.Attribute (.Name s2 _) f2 _] (.Name f3 _) _] => (p2.endLine == p3.line) && decide (b = c.base) && decide (i = "__init__") && decide (s1 = "self") && decide (s2 = "self") && decide (f1 = c.fld) && decide (f2 = c.fld) && decide (f3 = c.fld)
    | _ => false)
/-- so that isinstance asks its instances rightly -/
structure XcIs (K : PySem.W.Frag) (C : Addr) : Prop where
  cl : (PySem.W.clsIn K C).isSome = true
  ga : PySem.W.findIn K (.ref C) "__getattribute__" = some (some (.builtin "BaseException.__getattribute__"))
  gt : PySem.W.findIn K (.ref C) "__getattr__" = some none
  sb : PySem.W.subIn K (.ref C) (.type "BaseException") = some true
  ha : PySem.W.findIn K (.ref C) "__class__" = some (some (.builtin "object.__class__"))
  hn : PySem.W.specialIn K (.builtin "object.__class__") "__get__" = some (some (.builtin "getset_descriptor.__get__"))
  ht : PySem.W.takesIn K (.builtin "object.__class__") = some true
  hm : PySem.W.mroIn K C (.type "object") = some true
  ve : PySem.W.subIn K (.ref C) (.type "ValueError") = some true
/-- what the written part says of the class at C -/
structure XcOk (K : PySem.W.Frag) (mg : Str → Option Value) (c : Xc) (C : Addr) : Prop where
  gC : mg c.name = some (.ref C)
  dbg : (c.name == ("__debug__" : Str)) = false
  ox : OexC K C
  noN : PySem.W.findIn K (.ref C) c.fld = some none
  te : PySem.W.exmOne K (.ref C) (.ref C) = some true
  xf : XfC K C
  isx : XcIs K C
  gV : mg "ValueError" = none
  base : ∃ T, mg c.base = some (.ref T) ∧ PySem.W.keepIn K (.ref T) = true ∧ PySem.W.typeIn K (.ref T) = some (.type "type") ∧ PySem.W.readsIn K T (.type "type") = true ∧
    PySem.W.specialIn K (.ref T) "__getattribute__" = some (some (.builtin "type.__getattribute__")) ∧ PySem.W.findCls K (.ref T) (.type "type") "__init__" = some (.val (.builtin "ValueError.__init__"))
  init : ∃ (fI : Addr) (st : Stmt) (qual : Str) (dV kV doc pm cdv ct oc : Value) (an od : Option Addr) (osl : Array (Option Value)), PySem.W.findIn K (.ref C) "__init__" = some (some (.ref fI)) ∧ PySem.W.typeIn K (.ref fI) = some (.type "function") ∧
    K.lookup fI = some ⟨oc, od, .func (PySem.W.fnOf "__init__" qual (defArgs st) (defBody st) (defScope st) dV kV doc pm an cdv ct), osl⟩ ∧ PySem.W.codeIn K cdv qual = true ∧ chkInit c st = true ∧
    L2.Binds K (PySem.W.fnOf "__init__" qual (defArgs st) (defBody st) (defScope st) dV kV doc pm an cdv ct) ["self", c.fld] []
def spInit (K : PySem.W.Frag) (fld : Str) : Sp := fun vs H Q _ => ∃ (a C : Addr) (v : V), vs = [.ref a, v] ∧ H a = some (exo a C none) ∧ OexC K C ∧ PySem.W.findIn K (.ref C) fld = some none ∧
  ∀ dx, H dx = none → dx ≠ a → Q .non (upd (upd H dx (exd dx [(fld, v)])) a (exo a C (some dx)))
section
variable {P : Program} {w : World} {K : PySem.W.Frag} {mg : Str → Option Value} {base : Heap} {c : Xc} {C : Addr}
theorem meth_eq {b m : Str} {x y : Expr} {p1 p2 pos : Pos} {env : Env} (hx : plainA x = true) (hy : plainA y = true) (hl : (p2.endLine == pos.line) = true) : eval (.Call (.Attribute (.Name b p1) m p2) [x, y] [] pos) env = (do
      let ov ← eval (.Name b p1) env
      standAt p2.atName
      let (f, first) ← holding [ov] (getMethod ov m (do return (← importBound (.Name b p1) env).getD true))
      callWith pos f first (backTo pos (starEach [x, y] env)) (backToKw pos (keywordEach [] env))) := by
  have few : methodCallForm 2 (backTo pos (starEach [x, y] env)) (backToKw pos (keywordEach [] env)) = true := by
    rw [plain_star hx, plain_star hy]
    rfl
  have hp : methodCallPos true (.Name b p1) env p2 pos = pure pos := by
    unfold methodCallPos
    rw [hl]
    rfl
  show (do
    let ov ← eval (.Name b p1) env
    standAt p2.atName
    methodCall (.Name b p1) m p2 pos env ov 2 (backTo pos (starEach [x, y] env)) (backToKw pos (keywordEach [] env))) = _
  unfold methodCall
  rw [few, hp]
  rfl
theorem init_ok (T : XcOk K mg c C) : ∃ (fI : Addr) (fd : FuncData), PySem.W.findIn K (.ref C) "__init__" = some (some (.ref fI)) ∧ PySem.W.typeIn K (.ref fI) = some (.type "function") ∧ L2.Binds K fd ["self", c.fld] [] ∧ FnOk P w K mg base CX0 1 fI fd ["self", c.fld] (spInit K c.fld) := by
  obtain ⟨fI, st, qual, dV, kV, doc, pm, cdv, ct, oc, an, od, osl, h1, h2, lk, hcd, hch, hb⟩ := T.init
  obtain ⟨B, b1, b2, b3, b4, b5, b6⟩ := T.base
  unfold chkInit at hch
  obtain ⟨hch, c8⟩ := and2 hch
  obtain ⟨hch, c7⟩ := and2 hch
  obtain ⟨hch, c6⟩ := and2 hch
  obtain ⟨hch, c5⟩ := and2 hch
  obtain ⟨hch, c4⟩ := and2 hch
  obtain ⟨c1, c2, c3⟩ := and3 hch
  have SC := scope_of c1
  have g2 := of_decide_eq_true c2
  have g3 := of_decide_eq_true c3
  have g4 := of_decide_eq_true c4
  have g5 := notT c5
  split at c8
  · rename_i b p1 i p2 s1 q1 f1 q2 p3 p4 s2 q3 f2 p5 f3 q4 p6 heq
    obtain ⟨c8, d7⟩ := and2 c8
    obtain ⟨c8, d6⟩ := and2 c8
    obtain ⟨c8, d5⟩ := and2 c8
    obtain ⟨c8, d4⟩ := and2 c8
    obtain ⟨c8, d3⟩ := and2 c8
    obtain ⟨d0, d1, d2⟩ := and3 c8
    obtain rfl := of_decide_eq_true d1
    obtain rfl := of_decide_eq_true d2
    obtain rfl := of_decide_eq_true d3
    obtain rfl := of_decide_eq_true d4
    obtain rfl := of_decide_eq_true d5
    obtain rfl := of_decide_eq_true d6
    obtain rfl := of_decide_eq_true d7
    refine ⟨fI, _, h1, h2, hb, fn_of lk hcd SC (fun vs H Q E h => ?_) fun A outer s H vs Q E hr h => ?_⟩
    · obtain ⟨a, C', v, rfl, _⟩ := h
      rfl
    · obtain ⟨a, C', v, rfl, h3, h4, h5, k⟩ := h
      rw [heq]
      refine ⟨tSeq (tDrop (tVeI K (tCons (tVar 0) (tCons (tVar 1) tNil)))) (tOst K c.fld (tVar 0) (tVar 1)), ?_, ?_⟩
      · have v0 : ∀ p, PE (cxOf CX0 P w K mg base ["self", c.fld] qual (defScope st) fI cdv A outer s H E) (.Name "self" p) (tVar 0) := fun p => pe_var rfl (.inl g2) (by decide) (by decide)
        have v1 : ∀ p, PE (cxOf CX0 P w K mg base ["self", c.fld] qual (defScope st) fI cdv A outer s H E) (.Name c.fld p) (tVar 1) := fun p => pe_var rfl (.inl g3) (okN_1 c6) (okN_2 c6)
        exact pss_cons (ps_expr (pe_teinit g4 b1 g5 b2 b3 b4 b5 b6 (pa_cons (v0 _) (pa_cons (v1 _) pa_nil)) (hc := meth_eq rfl rfl d0))) (pss_one (ps_ost (v0 _) (v1 _)))
      · exact ⟨_, rfl, _, rfl, a, C', [v], rfl, by simp, h4, h3, _, rfl, _, rfl, a, C', rfl, h4, h5, .inl ⟨h3, k⟩⟩
  · cases c8
end
section
variable {X : Cx} {c : Xc} {C : Addr}
/-- C(e), the new exception's context being None -/
theorem pmk_oexN {x : Str} {D fI : Addr} {k : Nat} {fd : FuncData} {ps : List Str} {sp : Sp} {e : Expr} {es : List Expr} {ta : TA} {p pos : Pos} (T : OexC X.K D) (iD : PySem.W.findIn X.K (.ref D) "__init__" = some (some (.ref fI))) (tI : PySem.W.typeIn X.K (.ref fI) = some (.type "function"))
    (F1 : FnOk X.prog X.w X.K X.mg X.base CX0 k fI fd ps sp) (hr : Room (k + 1) X.A) (hb : L2.Binds X.K fd ps []) (hg : Gl X x) (hm : X.mg x = some (.ref D)) (ha : PA X (e :: es) ta) (hdb : (x == ("__debug__" : Str)) = false)
    (he : starEach (e :: es) X.env = (false, eval e X.env) :: starEach es X.env) (hpl : (backTo pos (starEach es X.env)).any (·.1) = false) : L2N.PMk X (.Call (.Name x p) (e :: es) [] pos) (tMkO D sp [] ta) := by
  intro pins s σ H Q I h
  obtain ⟨nm, q, N, bs, bm, sn, sub, ab, col, dd, k0, k1, k2, k3, k5, hD, hbm⟩ := T.cls
  refine wpAny_Call_Name_kw (ld_glob I hg hm (PySem.W.callWith_K (h₀ := X.base) I.ok.mod.kin T.kC (thn (ha.run pos pins s σ H _ I h) fun us s1 ⟨vs, H1, I1, r1, hz, q1⟩ => ⟨I1.kIn, ?_⟩) he hpl) hdb)
  obtain ⟨h0, g0, d0, t0, os0⟩ := s1
  have le0 : h0.objs.size ≤ h0.objs.size + 1 := Nat.le_succ _
  have free0 : H1 (h0.objs.size + 1) = none := I1.hok.fresh le0
  have start := q1 (h0.objs.size + 1) free0
  rw [List.append_nil] at start
  have stay : ∀ b o, h0.get? b = some o → ((h0.push (PySem.W.kdv_tup us)).push (PySem.HandSPX.excO D h0.objs.size)).get? b = some o := fun b o z => Heap.get?_push_of_some _ (Heap.get?_push_of_some _ z)
  have there : ((h0.push (PySem.W.kdv_tup us)).push (PySem.HandSPX.excO D h0.objs.size)).get? (h0.objs.size + 1) = some (PySem.HandSPX.excO D h0.objs.size) := by heap_get
  have I2 : L2.Inv X pins σ (upd H1 (h0.objs.size + 1) (exo (h0.objs.size + 1) D none)) ⟨(h0.push (PySem.W.kdv_tup us)).push (PySem.HandSPX.excO D h0.objs.size), g0, d0, t0, os0⟩ := I1.laid stay le0 (exo_ok there)
  have r2 : Vals (V.ref (h0.objs.size + 1) :: vs) (Value.ref (h0.objs.size + 1) :: us) := .cons rfl r1
  have hl : (Value.ref (h0.objs.size + 1) :: us ++ []).length = ps.length := by
    rw [List.append_nil, ← r2.length]
    exact F1.len _ _ _ _ start
  have few : us.length ≤ sizeLine := by
    have := Paired.length r1
    rw [sizeLine_eq]
    omega
  have b2 := hb _ (Value.ref (h0.objs.size + 1) :: us) I2.kIn hl
  rw [List.append_nil] at b2
  refine wpAny_call (PySem.HandSPX.call_own F.excBase_ValueError (fun Y => PySem.HandSPX.refsVE_contains Y bm hbm) (I1.kIn _ _ hD) (PySem.W.looks_findIn I1.kIn iD) (fun self => PySem.W.bind_fn I1.kIn self tI) few
    (codeAny_mono (F1.run _ X.stack _ _ ⟨Value.ref (h0.objs.size + 1) :: us, []⟩ (Value.ref (h0.objs.size + 1) :: us) _ _ (fun _ _ _ => False) (hr.make D us []) (I2.env0.make D us []) b2 r2 start) fun r s' back => ?_))
  cases r with
  | error er => exact back.elim
  | ok fl =>
    cases fl with
    | next => exact back.elim
    | brk => exact back.elim
    | cont => exact back.elim
    | ret u =>
      obtain ⟨v, H2, e1, e2, e3, e4, rv, rfl, d, fs, ea, ed, hd1, q2⟩ := back
      obtain ⟨h2, g2, d2, t2, os2⟩ := s'
      obtain ⟨t3, G, J, kG, ge, hoe, na⟩ := mk_end0 (d2 := d2) (t2 := t2) I1 le0 stay e3 e4 e1 e2 ea ed hd1
      refine ⟨rv, h0.objs.size + 1, _, _, ⟨G, g2, d2, t2, os2⟩, _, .ref D, some d, rfl, J, kG, ge, hoe, ⟨rfl, rfl, fun vs hv => ?_⟩, rfl, rfl, na, rfl, e2, raises_own T.exC T.tyC, q2⟩
      cases hv
      rfl
/-- c(e) -/
theorem pmk_xc {e : Expr} {te : TE} {p pos : Pos} {k : Nat} (T : XcOk X.K X.mg c C) (hr : Room (k + 2) X.A) (hg : Gl X c.name) (he : PE X e te) (hp : plainA e = true)
    (hm : ∀ σ H (Q Q' : VK), (∀ v H, Q v H → Q' v H) → te σ H Q → te σ H Q') :
    L2N.PMk X (.Call (.Name c.name p) [e] [] pos) (fun σ H Q => te σ H fun v H1 => ∀ d, H1 d = none → Q (.ref C) (some d) (upd H1 d (.xd [(c.fld, v)]))) := by
  obtain ⟨fI, fd, i1, i2, i3, i4⟩ := init_ok (P := X.prog) (w := X.w) (base := X.base) T
  have st : starEach [e] X.env = (false, eval e X.env) :: starEach [] X.env := plain_star hp _ _
  have mk := pmk_oexN (p := p) (pos := pos) T.ox i1 i2 i4 (hr.mono (by omega)) i3 hg T.gC (pa_cons he pa_nil st) T.dbg st rfl
  intro pins s σ H Q I h
  refine mk pins s σ H Q I (hm _ _ _ _ (fun v H1 k => ?_) h)
  refine ⟨by simp, fun a ha => ⟨a, C, v, rfl, upd_same, T.ox, T.noN, fun dx hd ne => ⟨rfl, dx, [(c.fld, v)], upd_same, ?_, ?_, ?_⟩⟩⟩
  · rw [upd_ne ne, upd_same]
  · rw [upd_ne ne] at hd
    exact hd
  · have hd' : H1 dx = none := by
      rw [upd_ne ne] at hd
      exact hd
    have e2 : upd (del (upd (upd (upd H1 a (exo a C none)) dx (exd dx [(c.fld, v)])) a (exo a C (some dx))) a) dx (.xd [(c.fld, v)]) = upd H1 dx (.xd [(c.fld, v)]) := by
      funext b
      by_cases hb : b = dx
      · rw [hb, upd_same, upd_same]
      · rw [upd_ne hb, upd_ne hb]
        by_cases hba : b = a
        · rw [hba, del_same, ha]
        · rw [del_ne hba, upd_ne hba, upd_ne hb, upd_ne hba]
    rw [e2]
    exact k dx hd'
end
end PF

set_option maxHeartbeats 4000000
/-! PX3: a def that raises: its promise. -/
namespace PF
open PySem PySem.Spec PyProof.Rows L2
/-- what grew ahead of a raise -/
structure XPost (K : PySem.W.Frag) (H F H' F' : Hp) : Prop where
  mono : Same F F'
  sub : Same F' H'
  keep : ∀ b o, H b = some o → NT o → H' b = some o
  live : ∀ b, H b ≠ none → H' b ≠ none
  tabs : Tm K H H'
  fresh : ∀ b, F' b ≠ none → F b ≠ none ∨ H b = none
def spX (K : PySem.W.Frag) (mg : Str → Option Value) (g : DefG) (gx : List Sl → Option (Xc × PyData)) (vs : List V) (H : Hp) (Q : VK) (E : XK) : Prop :=
  ∃ F as, Same F H ∧ TabF K F H ∧ Paired (ArgR K F H) vs as ∧ plainAs as = true ∧ ((∃ r l, gx as = none ∧ g as = some (r, l) ∧ ∀ v H' F', FPost K vs as H F H' F' v r l → Q v H') ∨
    ∃ c d, gx as = some (c, d) ∧ ∀ C dx v H' F', XcOk K mg c C → XPost K H F H' F' → H' dx = some (.xd [(c.fld, v)]) → Dq K F' v d → E (.ref C) (some dx) H')
structure FnX (P : Program) (w : World) (K : PySem.W.Frag) (mg : Str → Option Value) (base : Heap) (n : Nat) (a : Addr) (fd : FuncData) (ps : List Str) (g : DefG) (gx : List Sl → Option (Xc × PyData)) : Prop where
  len : ∀ as r, gx as = some r → as.length = ps.length
  len2 : ∀ as r, g as = some r → as.length = ps.length
  run : ∀ (A : Around) (outer : List Env) (s : Shared) (H : Hp) (args : Args) (us : List Value) (vs : List V) (Q : VK) (E : XK), Room n A → A.guards = some [] → Env0 P w K mg base A outer s H → BindsTo s fd args (ps.zip us) → Vals vs us → spX K mg g gx vs H Q E →
    codeAny (model P w) A (.call (.ref a) args) (CR (L2N.CX P w) outer P w H s Q E) s
theorem plainAs_no : ∀ {as : List Sl} {i : Nat} {d : List PyData}, plainAs as = true → as[i]? ≠ some (.b d)
  | [], _, _, _ => by simp
  | .v _ :: r, 0, _, _ => by simp
  | .v _ :: r, i + 1, d, h => by
    rw [List.getElem?_cons_succ]
    exact plainAs_no (as := r) h
  | .o _ :: _, _, _, h => by cases h
  | .b _ :: _, _, _, h => by cases h
  | .w _ :: _, _, _, h => by cases h
/-- a def that never raises -/
theorem fnX_of_G {P : Program} {w : World} {K : PySem.W.Frag} {mg : Str → Option Value} {base : Heap} {n : Nat} {a : Addr} {fd : FuncData} {ps : List Str} {g : DefG} (G : FnG P w K mg base n a fd ps g) : FnX P w K mg base n a fd ps g (fun _ => none) := by
  refine ⟨fun _ _ z => (by cases z), G.len, fun A outer s H args us vs Q E hr hg e0 hb rv hsp => ?_⟩
  obtain ⟨F, as, sm, en, pa, pl, ⟨r, l, _, eg, post⟩ | ⟨_, _, z, _⟩⟩ := hsp
  · refine codeAny_mono (G.run A outer s H args us vs Q hr hg e0 hb rv ⟨F, as, r, l, sm, en, pa, fun i j d e h _ => absurd h (plainAs_no pl), eg, post⟩) fun r s' h => ?_
    cases r with
    | error e => exact h.elim
    | ok fl => cases fl <;> exact h
  · cases z
structure FnXP (P : Program) (w : World) (K : PySem.W.Frag) (mg : Str → Option Value) (base : Heap) (n : Nat) (a : Addr) (g : DefG) (gx : List Sl → Option (Xc × PyData)) : Prop where
  kp : PySem.W.keepIn K (.ref a) = true
  ex : ∃ fd ps, L2.Binds K fd ps [] ∧ FnX P w K mg base n a fd ps g gx
/-! ### the text of a raise -/
def chkX (C : Cfg) (S : Sc) (x : Rx) : IB → List Stmt → Bool
  | .cons s r, z :: zs => chkS C S s z && chkX C S x r zs
  | .nil, z :: _ => match z with
    | .If zt [.Raise (some (.Call (.Name y _) [ze] [] _)) none _] [] _ => chkT C S x.t [zt] none && decide (y = x.cls.name) && glS S y && chkE C S x.e [ze] none
    | _ => false
  | _, [] => false
def chkDX (fns : List Str) (cons : List (Str × PyData)) (f : Fn) (x : Rx) (st : Stmt) : Bool :=
  scopeOk f.N f.ps (defScope st) && chkX ⟨f.N, fns, cons⟩ ⟨defScope st, fun _ => true⟩ x x.pre (defBody st)
section
variable {X : Cx} {C : Cfg} {S : Sc} {Γ : Tab} {n FU : Nat}
theorem PS.nox {z : Stmt} {t : TS} (h : PS X.nox z t) : PS X z t := ⟨fun pins s σ H D I hw =>
  wpAny_mono (h.run pins s σ H D (I.wish _) hw) (fun _ _ q => q.unwish) fun _ _ z => False.elim z⟩
theorem pss_any {zs : List Stmt} : PSs X zs (fun _ _ _ => False) := ⟨fun _ _ _ _ _ _ h => h.elim⟩
/-- what the lines ahead of the raise do, then the raise -/
def tX (K : PySem.W.Frag) (Γ : Tab) (cons : List (Str × PyData)) (FU : Nat) (x : Rx) (W : WX) (CA : Addr) : IB → TS
  | .cons s r => tSeq (rS K Γ cons FU s) (tX K Γ cons FU x W CA r)
  | .nil => tSeq (tIfS (rT K Γ cons x.t) (fun _ σ H => rD K Γ cons x.e σ H fun v H1 => ∀ d, H1 d = none → W (.ref CA) (some d) σ (upd H1 d (.xd [(x.cls.fld, v)]))) tNext) (fun _ _ _ => False)
theorem pss_X {k : Nat} (hC : COk X.nox C Γ n) (hS : SOk X.nox S) {x : Rx} {W : WX} {CA : Addr} (T : XcOk X.K X.mg x.cls CA) (tk : L2N.Takes X W) (hr : Room (k + 2) X.A) : ∀ (b : IB) (zs : List Stmt), chkX C S x b zs = true → PSs X zs (tX X.K Γ C.cons FU x W CA b)
  | .cons s r, [], h => by cases h
  | .cons s r, z :: zs, h => by
    have h : (chkS C S s z && chkX C S x r zs) = true := h
    obtain ⟨h1, h2⟩ := and2 h
    exact pss_cons (PS.nox (sS hC hS rfl s z h1)) (pss_X hC hS T tk hr r zs h2)
  | .nil, [], h => by cases h
  | .nil, z :: zs, h => by
    unfold chkX at h
    split at h
    · rename_i zt y p1 ze p2 p3 p4
      obtain ⟨h, h4⟩ := and2 h
      obtain ⟨h1, h2, h3⟩ := and3 h
      obtain rfl := of_decide_eq_true h2
      have ge : Gl X x.cls.name := gl_of hS h3
      have pe : PE X ze (rD X.K Γ C.cons x.e) := PE.nox (d_of ((sE x.e hC hS _ _ h4).1 _ rfl))
      refine pss_cons (ps_if (PT.nox ((sT x.t hC hS _ _ h1).1 _ rfl)) (pss_one (L2N.ps_raise (X := X) (show X.calm = true from hC.calm) tk (pmk_xc (k := k) T hr ge pe (chk_plain _ _ _ _ h4) fun σ H Q Q' hq ⟨G, F, env, r, env', R, e, kk⟩ => ⟨G, F, env, r, env', R, e, fun v H' F' R' E' q => hq _ _ (kk v H' F' R' E' q)⟩))) pss_nil) pss_any
    · cases h
theorem tX_of {K : PySem.W.Frag} {Γ : Tab} {cons : List (Str × PyData)} {FU : Nat} {x : Rx} {W : WX} {CA : Addr} {G : Gh} {D : Ends} : ∀ (b : IB) {env env1 : En} {σ : L2.St} {H F : Hp}, Rel K G σ H F env → runB Γ cons FU b env = some (.nx env1) →
    (∀ σ' H' F', Same F F' → Rel K G σ' H' F' env1 → tX K Γ cons FU x W CA .nil D σ' H') → tX K Γ cons FU x W CA b D σ H
  | .nil, env, env1, σ, H, F, R, e, k => by
    cases e
    exact k σ H F (Same.refl _) R
  | .cons s r, env, env1, σ, H, F, R, e, k => by
    obtain ⟨f, e1, e⟩ := obind e
    cases f with
    | nx e2 =>
      refine ⟨G, F, env, .nx e2, R, e1, fun σ' H' F' m R' => ?_⟩
      exact tX_of r R' e fun σ2 H2 F2 m2 R2 => k σ2 H2 F2 (m.trans m2) R2
    | bk e2 => cases e
    | ct e2 => cases e
    | rt r2 e2 => cases e
end
/-- THE DEF THAT RAISES -/
theorem fn_X {P : Program} {w : World} {K : PySem.W.Frag} {mg : Str → Option Value} {base : Heap} {fns : List Str} {cons : List (Str × PyData)} {f : Fn} {x : Rx} {st : Stmt} {qual : Str} {a CA : Addr} {fd : FuncData} {Γ : Tab} {n FU : Nat} {g : DefG}
    (FF : Fun K f.name qual st a fd) (hx : f.rx = some x) (hc : chkDX fns cons f x st = true) (hblt : ∀ x ∈ blts, mg x = none) (hcons : ∀ x d, cons.lookup x = some d → ∃ u v, mg x = some u ∧ RelV v u ∧ ∀ F, Dq K F v d)
    (hfns : ∀ g x, fns[g]? = some x → ∃ b, mg x = some (.ref b) ∧ FnP P w K mg base (n + 2) b (Γ g)) (T : XcOk K mg x.cls CA) (G0 : FnG P w K mg base (n + 3) a fd f.ps g) :
    FnX P w K mg base (n + 3) a fd f.ps g (runXD Γ cons FU f) := by
  unfold chkDX at hc
  obtain ⟨hc1, hc2⟩ := and2 hc
  have SC := scope_of hc1
  obtain ⟨oc, od, kV, doc, pm, an, cdv, ct, osl, rfl, lk, hcd⟩ := FF.ex
  have hlen : ∀ as r, runXD Γ cons FU f as = some r → as.length = f.ps.length := fun as r e => by
    unfold runXD at e
    rw [hx] at e
    exact (oite e).1.1
  refine ⟨hlen, G0.len, fun A outer s H args us vs Q E hr hg e0 hb rv hsp => ?_⟩
  obtain ⟨F, as, sm, en, pa, pl, hsp⟩ := hsp
  have uni : ∀ (i j : Nat) (d e : List PyData), as[i]? = some (.b d) → as[j]? = some (.b e) → i = j := fun i j d e h _ => absurd h (plainAs_no pl)
  rcases hsp with ⟨r, l, _, eg, post⟩ | ⟨c, d, eg, post⟩
  · refine codeAny_mono (G0.run A outer s H args us vs Q hr hg e0 hb rv ⟨F, as, r, l, sm, en, pa, uni, eg, post⟩) fun r s' h => ?_
    cases r with
    | error e => exact h.elim
    | ok fl => cases fl <;> exact h
  have hl : vs.length = f.ps.length := by rw [paired_len pa, hlen as _ eg]
  have KX : K.In s.heap := e0.mod.kin.keeps fun b o e => (e0.bs b o e).1
  have lim : s.heap.NoLimit := e0.mod.nolimit.keeps fun b o e => (e0.bs b o e).1
  have hkind : ∀ y ∈ f.ps.zip us, (defScope st).names.lookup y.1 = some .local ∨ ((defScope st).names.lookup y.1 = some .cell ∧ ((cellsFrom (s.heap.objs.size + 1) (defScope st).names []).lookup y.1).isSome = true) := fun ⟨m, v⟩ hy => by
    rcases SC.par m (List.of_mem_zip hy).1 with q | q
    · exact .inl q
    · exact .inr ⟨q, PySem.W.cellsFrom_some _ _ _ (.inl q)⟩
  refine codeAny_call_function hr.depth (KX _ _ lk) rfl SC.co SC.gen rfl (PySem.W.codeRec_of KX hcd) (hb _ _ _ _ ?_)
  refine wpAny_newFunctionEnv_cells SC.kind hkind fun env he s1 z => ?_
  subst he
  refine ⟨lim.keeps z.toInCall.keep, codeAny_func ?_⟩
  have I : L2.Inv (cxOf (L2N.CX P w) P w K mg base f.N qual (defScope st) a cdv A outer s H E) [] (L2.start f.N vs) H s1 := inv_start SC hr.hd e0 hl rv z
  have hC : COk (cxOf (L2N.CX P w) P w K mg base f.N qual (defScope st) a cdv A outer s H E).nox ⟨f.N, fns, cons⟩ Γ (n + 2) :=
    ⟨rfl, rfl, SC.nd, hr.deeper _, hg, hblt, hcons, hfns⟩
  have hS : SOk (cxOf (L2N.CX P w) P w K mg base f.N qual (defScope st) a cdv A outer s H E).nox ⟨defScope st, fun _ => true⟩ := ⟨rfl, fun _ _ => rfl⟩
  have tk : L2N.Takes (cxOf (L2N.CX P w) P w K mg base f.N qual (defScope st) a cdv A outer s H E) (fun cls d _ H => E cls d H) := L2N.takes_of rfl rfl rfl rfl
  have body := pss_X (FU := FU) (x := x) (k := n) hC hS T tk (hr.deeper _) x.pre (defBody st) hc2
  unfold runXD at eg
  rw [hx] at eg
  obtain ⟨⟨hal, _⟩, eg⟩ := oite eg
  obtain ⟨fl, ef, eg⟩ := obind eg
  cases fl with
  | bk e => cases eg
  | ct e => cases eg
  | rt r e => cases eg
  | nx env1 =>
    obtain ⟨p, e1, eg⟩ := obind eg
    obtain ⟨ht, eg⟩ := oite eg
    obtain ⟨q, e2, eg⟩ := obind eg
    cases eg
    have hσ : ∀ (i : Nat) (v : V), vs[i]? = some v → (L2.start f.N vs)[i]? = some (some v) := fun i v e => by
      have hi : i < vs.length := (List.getElem?_eq_some_iff.mp e).1
      unfold L2.start
      rw [List.getElem?_append_left (by rw [List.length_map]; exact hi), List.getElem?_map, e]
      rfl
    have nom : ∀ (i : Nat) (t : Sl) (c : Ob), (startE f.N.length as).at i = some t → t.m = some c → False := fun i t c e hm => by
      rw [start_at (vs := vs)] at e
      obtain ⟨v, ev, q⟩ := paired_get' pa e
      cases t with
      | v d => cases hm
      | o ds => exact q.elim
      | w ds => exact q.elim
      | b ds => exact plainAs_no pl e
    have R : Rel K ⟨H, F, fun _ _ => False⟩ (L2.start f.N vs) H F (startE f.N.length as) := by
      refine ⟨?_, sm, Same.refl _, fun b o e _ _ => e, fun b e => e, fun b e => .inl e, fun i d e => ?_, fun i t ds e hm => (nom i t ds e hm).elim, fun i j p ne z1 z2 _ _ => ?_, Tm.refl _, en.start⟩
      · unfold startE L2.start
        rw [List.length_append, List.length_map, List.length_replicate, List.length_append, List.length_map, List.length_replicate, paired_len pa]
      · rw [start_at (vs := vs)] at e
        obtain ⟨v, ev, q⟩ := paired_get' pa e
        exact ⟨v, hσ i v ev, q⟩
      · obtain ⟨t1, d1, e1, m1⟩ := z1
        exact nom i t1 d1 e1 m1
    refine wpAny_mono (body.run [] s1 (L2.start f.N vs) H { nx := fun _ H' => Q .non H', rt := Q } I (tX_of x.pre R ef fun σ' H' F' m R' => ?_)) (fun fl s' hs => ?_) fun e s' hs => hs
    · refine ⟨_, F', env1, p.1, p.2, R', e1, fun H1 F1 R1 E1 => ?_⟩
      rw [ht]
      refine ⟨_, F1, p.2, q.1, q.2, R1, e2, fun v H2 F2 R2 E2 qv dx hdx => ?_⟩
      have hf : F2 dx = none := R2.sub.free hdx
      refine post CA dx v (upd H2 dx (.xd [(x.cls.fld, v)])) F2 T ⟨R2.base, fun b o e => ?_, fun b o e nt => ?_, fun b e => ?_, R2.tabs.trans (Tm.upd (Da.no hdx)), R2.new⟩ upd_same qv
      · rw [upd_ne (ne_of_none e hf)]
        exact R2.sub b o e
      · have := R2.fro b o e nt fun i z => z
        rw [upd_ne (ne_of_none this hdx)]
        exact this
      · by_cases hb : b = dx
        · rw [hb, upd_same]
          simp
        · rw [upd_ne hb]
          exact R2.live b e
    · have back : ∀ {σ' : L2.St} {H' : Hp} {v : V} {u : Value}, L2.Inv (cxOf (L2N.CX P w) P w K mg base f.N qual (defScope st) a cdv A outer s H E) [] σ' H' s' → RelV v u → Q v H' → CE outer P w H s Q u s' :=
        fun {σ' H' v u} J rv q => ⟨v, H', J.os, J.bare, J.base, J.hok, rv, q⟩
      cases fl with
      | ret u =>
        obtain ⟨v, σ', H', J, rv, q⟩ := hs
        exact back J rv q
      | next =>
        obtain ⟨σ', H', J, q⟩ := hs
        exact back (v := V.non) (u := Value.none) J rfl q
      | brk =>
        obtain ⟨_, _, _, q⟩ := hs
        exact False.elim q
      | cont =>
        obtain ⟨_, _, _, q⟩ := hs
        exact False.elim q
end PF

set_option maxHeartbeats 4000000
/-! PXA: `return a == b and repr(a) == repr(b)` of an int twice, called in an except suite. -/
namespace PF
open PySem PySem.Spec PyProof.Rows L2
def chkAlk (f : Fn) (st : Stmt) : Bool :=
  scopeOk f.N f.ps (defScope st) && (match f.ps, f.N, defBody st with
  | [x, y], [x', y'], [.Return (some (.BoolOp .And [.Compare (.Name a1 _) [.Eq] [.Name b1 _] _, .Compare (.Call (.Name r1 _) [.Name a2 _] [] _) [.Eq] [.Call (.Name r2 _) [.Name b2 _] [] _] _] _)) _] =>
    decide (x' = x) && decide (y' = y) && decide (a1 = x) && decide (a2 = x) && decide (b1 = y) && decide (b2 = y) && decide (r1 = "repr") && decide (r2 = "repr") && decide ((defScope st).names.lookup x = some .local) && decide ((defScope st).names.lookup y = some .local) &&
      decide ((defScope st).names.lookup ("repr" : Str) = some .globalImplicit) && okN x && okN y
  | _, _, _ => false)
def spAlk (vs : List V) (H : Hp) (Q : VK) (_ : XK) : Prop := ∃ i : Int, vs = [.int i, .int i] ∧ i.natAbs.log2 < 1000 ∧ Q (.bl true) H
theorem fn_alk {P : Program} {w : World} {K : PySem.W.Frag} {mg : Str → Option Value} {base : Heap} {f : Fn} {st : Stmt} {qual : Str} {a : Addr} {fd : FuncData} (FF : Fun K f.name qual st a fd) (hc : chkAlk f st = true) (hm : mg "repr" = none) : L2H.FnH P w K mg base CX0 1 a fd f.ps spAlk := by
  unfold chkAlk at hc
  obtain ⟨c1, hc⟩ := and2 hc
  have SC := scope_of c1
  obtain ⟨oc, od, kV, doc, pm, an, cdv, ct, osl, rfl, lk, hcd⟩ := FF.ex
  split at hc
  · rename_i x y x' y' a1 p1 b1 p2 p3 r1 p4 a2 p5 p6 r2 p7 b2 p8 p9 p10 p11 p12 e1 e2 e3
    obtain ⟨hc, d13⟩ := and2 hc
    obtain ⟨hc, d12⟩ := and2 hc
    obtain ⟨hc, d11⟩ := and2 hc
    obtain ⟨hc, d10⟩ := and2 hc
    obtain ⟨hc, d9⟩ := and2 hc
    obtain ⟨hc, d8⟩ := and2 hc
    obtain ⟨hc, d7⟩ := and2 hc
    obtain ⟨hc, d6⟩ := and2 hc
    obtain ⟨hc, d5⟩ := and2 hc
    obtain ⟨hc, d4⟩ := and2 hc
    obtain ⟨d1, d2, d3⟩ := and3 hc
    obtain rfl := of_decide_eq_true d1
    obtain rfl := of_decide_eq_true d2
    obtain rfl := of_decide_eq_true d3
    obtain rfl := of_decide_eq_true d4
    obtain rfl := of_decide_eq_true d5
    obtain rfl := of_decide_eq_true d6
    obtain rfl := of_decide_eq_true d7
    obtain rfl := of_decide_eq_true d8
    have g9 := of_decide_eq_true d9
    have g10 := of_decide_eq_true d10
    have g11 := of_decide_eq_true d11
    refine L2H.fn_ofH lk hcd SC (fun vs H Q E h => ?_) fun A outer s H vs Q E p hot hr h => ?_
    · obtain ⟨i, rfl, _⟩ := h
      rw [e1]
      rfl
    · obtain ⟨i, rfl, hz, q⟩ := h
      rw [e3, e2]
      refine ⟨tRet (tAndV (tOp rEq (tVar 0) (tVar 1)) (tOp rEq (tCB (fun xs H Q => ∃ i, xs = [.int i] ∧ i.natAbs.log2 < 1920 ∧ Q (.str (toString i)) H) (tCons (tVar 0) tNil)) (tCB (fun xs H Q => ∃ i, xs = [.int i] ∧ i.natAbs.log2 < 1920 ∧ Q (.str (toString i)) H) (tCons (tVar 1) tNil)))), ?_, ?_⟩
      · have v0 : ∀ p', PE (L2H.cxH CX0 P w K mg base [a2, b2] qual (defScope st) a cdv A outer s H E p) (.Name a2 p') (tVar 0) := fun p' => pe_var rfl (.inl g9) (okN_1 d12) (okN_2 d12)
        have v1 : ∀ p', PE (L2H.cxH CX0 P w K mg base [a2, b2] qual (defScope st) a cdv A outer s H E p) (.Name b2 p') (tVar 1) := fun p' => pe_var rfl (.inl g10) (okN_1 d13) (okN_2 d13)
        exact pss_one (ps_ret (pe_and (pe_cmpR op_eq (v0 _) (v1 _) rfl) (pe_one (pe_cmpR op_eq (pe_callB SkE.call_repr_int g11 hm (by decide +kernel) (pa_cons (v0 _) pa_nil)) (pe_callB SkE.call_repr_int g11 hm (by decide +kernel) (pa_cons (v1 _) pa_nil)) rfl))))
      · refine ⟨_, rfl, _, rfl, rfl, true, by simp, ?_⟩
        rw [if_pos rfl]
        exact ⟨_, rfl, i, rfl, by omega, _, rfl, i, rfl, by omega, rfl, by simpa using q⟩
  · cases hc
end PF

set_option maxHeartbeats 4000000
/-! PX4: a def that is a try of a call, one except clause, and a return of a truth. -/
namespace PF
open PySem PySem.Spec PyProof.Rows L2
/-! ### the call of a def that may raise -/
def tCX (K : PySem.W.Frag) (mg : Str → Option Value) (g : DefG) (gx : List Sl → Option (Xc × PyData)) (W : WX) (t : TA) : TE := fun σ H Q => t σ H fun vs H1 => spX K mg g gx vs H1 Q (WE W σ)
section
variable {X : Cx} {W : WX} {n : Nat} {a : Addr} {g : DefG} {gx : List Sl → Option (Xc × PyData)}
theorem run_fnX {pins : List (Addr × Obj)} {σ : L2.St} {H : Hp} {s : Shared} {Q : VK} {us : List Value} {vs : List V} (F : FnXP X.prog X.w X.K X.mg X.base n a g gx) (hr : Room n X.A) (hg : X.A.guards = some []) (tk : L2N.Takes X W) (I : L2.Inv X pins σ H s)
    (r : Vals vs us) (h : spX X.K X.mg g gx vs H Q (WE W σ)) : wpAny (model X.prog X.w) X.A (call (.ref a) us) (EP X pins σ Q) X.xe s := by
  obtain ⟨fd, ps, hb, G⟩ := F.ex
  have hl : us.length = ps.length := by
    obtain ⟨F, as, _, _, h2, _, ⟨x, l, _, h4, _⟩ | ⟨c, d, h4, _⟩⟩ := h
    · rw [← G.len2 as _ h4, ← paired_len h2, r.length]
    · rw [← G.len as _ h4, ← paired_len h2, r.length]
  have hb' := hb s us I.kIn (by rw [List.append_nil]; exact hl)
  rw [List.append_nil] at hb'
  refine wpAny_call (codeAny_mono (G.run X.A X.stack s H ⟨us, []⟩ us vs Q _ hr hg I.env0 hb' r h) fun x s' hq => ?_)
  cases x with
  | error e => exact L2N.passAt tk σ pins H s e s' I hq
  | ok fl =>
    cases fl with
    | ret u => exact I.after hq
    | next => exact False.elim hq
    | brk => exact False.elim hq
    | cont => exact False.elim hq
theorem pe_callX {x : Str} {p pos : Pos} {z : Expr} {zs : List Expr} {t : TA} (F : FnXP X.prog X.w X.K X.mg X.base n a g gx) (hr : Room n X.A) (hgd : X.A.guards = some []) (tk : L2N.Takes X W) (hg : Gl X x) (hm : X.mg x = some (.ref a)) (hx : okN x = true) (ha : PA X (z :: zs) t) (hp : (z :: zs).all plainA = true) :
    PE X (.Call (.Name x p) (z :: zs) [] pos) (tCX X.K X.mg g gx W t) := by
  refine ⟨fun pins s σ H Q I h => ?_⟩
  refine wpAny_Call_Name_kw (ld_glob I hg hm ?_ (okN_1 hx))
  rw [List.all_cons, Bool.and_eq_true] at hp
  refine PySem.W.callWith_K (h₀ := X.base) I.ok.mod.kin F.kp (thn (ha.run pos pins s σ H _ I h) fun us s1 ⟨vs, H1, I1, r, q⟩ => ⟨I1.kIn, ?_⟩) (plain_star hp.1 _ _) (plain_any hp.2 _ _)
  exact run_fnX F hr hgd tk I1 r q
end
theorem tk00 {X : Cx} : Takes X (fun _ _ _ _ => False) := fun _ _ h => by
  obtain ⟨_, _, _, _, _, _, _, _, _, _, _, _, _, _, _, _, q⟩ := h
  exact q.elim
/-- an exception whose context is None is an exception -/
theorem traced_zc {h B : Heap} {a : Addr} {cls fl : Value} {d : Option Addr} (x : HandSPX.TracedZ h B a (L2N.Zn cls d) fl) : HandSPX.TracedZ h B a (Zc cls d) fl := by
  obtain ⟨oe, vs, T, oT, ts, z1, z2, z⟩ := x
  exact ⟨oe, vs, T, oT, ts, z1, z2.zc, z⟩
theorem sky_zc {B h : Heap} {l : List Env} {a L : Addr} {cls : Value} {d : Option Addr} (x : Sky B l a (L2N.Zn cls d) L h) : Sky B l a (Zc cls d) L h := by
  rcases x with ⟨y1, y2, y3, oe, vs, z1, z2, z⟩ | ⟨y1, y2, y3, y⟩ | ⟨y1, y2, y3, y⟩
  · exact .inl ⟨y1, y2, y3, oe, vs, z1, z2.zc, z⟩
  · exact .inr (.inl ⟨y1, y2, y3, traced_zc y⟩)
  · exact .inr (.inr ⟨y1, y2, y3, traced_zc y⟩)
theorem takes_n {X : Cx} {W : WX} (t : Takes X W) : L2N.Takes X W := fun u s' ⟨a, B, sI, pins, σ, H, cls, d, e, I, nb, up, sky, r⟩ => t u s' ⟨a, B, sI, pins, σ, H, cls, d, e, I, nb, up, sky_zc sky, r⟩
/-! ### the text of a try -/
def chkZ (C : Cfg) (S : Sc) : IE → Expr → Bool
  | .x j, .Name y _ => nmS C S j y
  | .k (.int c), .Constant (.int c') _ _ => decide (c = c')
  | _, _ => false
def chkSu (C : Cfg) (S : Sc) (c : Xc) : Hx → Option Str → List Stmt → Bool
  | .k (.bool b), none, [.Return (some (.Constant (.bool b') _ _)) _] => b == b'
  | .alk i g e, some nm, [.Return (some (.Call (.Name y _) [.Attribute (.Name n2 _) fl _, z] [] _)) _] =>
    decide (C.fns[g]? = some y) && glS S y && okN y && decide (n2 = nm) && decide (C.N[i]? = some nm) && decide (S.sc.names.lookup nm = some .local) && okN nm && decide (fl = c.fld) && plainA z && chkZ C S e z
  | _, _, _ => false
def chkTB (C : Cfg) (S : Sc) (t : Tf) : List Stmt → Bool
  | [.Try [.Expr (.Call (.Name y _) (z :: zs) [] _) _] [.ExceptHandler (some (.Name cx _)) nm (b0 :: su) _] [] [] _, .Return (some (.Constant (.bool b) _ _)) _] =>
    decide (C.fns[t.f]? = some y) && glS S y && okN y && chkL C S t.es (z :: zs) && (z :: zs).all plainA && decide (cx = t.cls.name) && glS S cx && (match t.ret with
      | .bool b' => b' == b
      | _ => false) && chkSu C S t.cls t.suite nm (b0 :: su)
  | _ => false
def chkTD (fns : List Str) (cons : List (Str × PyData)) (f : Fn) (t : Tf) (st : Stmt) : Bool :=
  scopeOk f.N f.ps (defScope st) && chkTB ⟨f.N, fns, cons⟩ ⟨defScope st, fun _ => true⟩ t (defBody st)
theorem paired_getD {K : PySem.W.Frag} {σ : L2.St} {F : Hp} : ∀ {vs : List V} {hs : List Hd} {ds : List PyData}, Paired (HV K σ F) vs hs → getD hs = some ds → ∀ H, Paired (ArgR K F H) vs (ds.map .v)
  | _, [], ds, .nil, h, H => by
    cases h
    exact .nil
  | _, .d z :: r, ds, .cons a t, h, H => by
    obtain ⟨ds', e, h⟩ := obind h
    cases h
    exact .cons a (paired_getD t e H)
  | _, .s _ :: _, _, _, h, _ => by cases h
theorem plainAs_map : ∀ ds : List PyData, plainAs (ds.map .v) = true
  | [] => rfl
  | _ :: r => plainAs_map r
/-- what the try does -/
def tTry (K : PySem.W.Frag) (mg : Str → Option Value) (g : DefG) (gx : List Sl → Option (Xc × PyData)) (ta : TA) (CA : Addr) (bs br : Bool) : TS := fun D σ H =>
  ta σ H fun vs H1 => spX K mg g gx vs H1 (fun _ H' => D.rt (.bl br) H') (fun cls _ H' => ∃ b, PySem.W.exmOne K cls (.ref CA) = some b ∧ (b = true → ∀ a : Addr, H' a = none → D.rt (.bl bs) H') ∧ (b = false → False))
theorem pss_T {X : Cx} {C : Cfg} {S : Sc} {Γ : Tab} {n : Nat} {gx : List Sl → Option (Xc × PyData)} {f : Fn} {t : Tf} {CA : Addr} {bs : Bool} {br : Bool} {zs : List Stmt} (hs : X.stack = X.env :: X.outer) (hf : X.env.frame = some X.env.locals) (hC : COk X C Γ n) (hS : SOk X S) (T : XcOk X.K X.mg t.cls CA)
    (hfx : ∀ x, C.fns[t.f]? = some x → ∃ b, X.mg x = some (.ref b) ∧ FnXP X.prog X.w X.K X.mg X.base n b (Γ t.f) gx) (e1 : t.suite = .k (.bool bs)) (e2 : t.ret = .bool br)
    (h : chkTB C S t zs = true) : PSs X zs (tTry X.K X.mg (Γ t.f) gx (rV X.K Γ C.cons t.es) CA bs br) := by
  unfold chkTB at h
  split at h
  · rename_i y p1 z zs p2 p3 cx p4 nm b0 su p5 p6 b j p7 p8
    obtain ⟨h, h9⟩ := and2 h
    obtain ⟨h, h8⟩ := and2 h
    obtain ⟨h, h7⟩ := and2 h
    obtain ⟨h, h6⟩ := and2 h
    obtain ⟨h, h5⟩ := and2 h
    obtain ⟨h, h4⟩ := and2 h
    obtain ⟨h1, h2, h3⟩ := and3 h
    obtain rfl := of_decide_eq_true h6
    rw [e2] at h8
    obtain rfl : br = b := eq_of_beq h8
    rw [e1] at h9
    unfold chkSu at h9
    split at h9
    · rename_i bb bb' j2 p9 p10 hbb hsu
      cases hbb
      cases hsu
      obtain rfl : bs = bb' := eq_of_beq h9
      obtain ⟨fa, m1, m2⟩ := hfx y (of_decide_eq_true h1)
      have gC : Gl X t.cls.name := gl_of hS h7
      refine pss_mono (pss_cons (ps_try_only (X := X) (c := .ref CA) (ts := fun _ _ _ => tRet (tC (.bl bs))) (tb := fun W => tSeq (tDrop (tCX X.K X.mg (Γ t.f) gx W (rV X.K Γ C.cons t.es))) tNext) (Wout := fun _ _ _ _ => False) hs hf ⟨gC, T.dbg, .inl T.gC⟩ tk00
        (fun W pn xe tk _ => pss_one (ps_expr (pe_callX (X := X.tr pn xe) (p := p1) (pos := p2) m2 hC.room hC.guards (takes_n tk) (gl_of hS h2) m1 h3 (sV (X := X.tr pn xe) t.es ⟨hC.calm, hC.N, hC.nd, hC.room, hC.guards, hC.blt, hC.cons, hC.fns⟩ ⟨hS.sc, hS.fb⟩ _ h4) h5)))
        (fun a oe cls d pn _ _ => pss_one (ps_ret pe_bl))) (pss_one (ps_ret pe_bl))) fun D σ H q => ?_
      exact q
    · contradiction
    · cases h9
  · cases h
/-- the second argument, in the suite -/
def tZ : IE → TE
  | .x j => tVar j
  | .k (.int c) => tC (.int c)
  | _ => fun _ _ _ => False
theorem pe_Z {X : Cx} {C : Cfg} {S : Sc} {e : IE} {z : Expr} (hN : X.N = C.N) (hS : X.env.scope = S.sc) (h : chkZ C S e z = true) : PE X z (tZ e) := by
  unfold chkZ at h
  split at h
  · rename_i j y p
    unfold nmS at h
    obtain ⟨h1, h2, h3⟩ := and3 h
    refine pe_var (by rw [hN]; exact of_decide_eq_true h1) ?_ (okN_1 h3) (okN_2 h3)
    unfold visS at h2
    unfold Vis
    rw [hS]
    split at h2
    · exact .inl (by assumption)
    · exact .inr (.inl (by assumption))
    · exact .inr (.inr (by assumption))
    · cases h2
  · obtain rfl := of_decide_eq_true h
    exact pe_int
  · cases h
structure AlkAt (X : Cx) (y : Str) : Prop where
  ex : ∃ (a : Addr) (fd : FuncData) (ps : List Str), X.mg y = some (.ref a) ∧ PySem.W.keepIn X.K (.ref a) = true ∧ L2.Binds X.K fd ps [] ∧ L2H.FnH X.prog X.w X.K X.mg X.base CX0 1 a fd ps spAlk
/-- what the try does whose suite asks whether the field is alike -/
def tTryA (K : PySem.W.Frag) (mg : Str → Option Value) (g : DefG) (gx : List Sl → Option (Xc × PyData)) (ta : TA) (CA : Addr) (fl : Str) (i : Nat) (tz : TE) (br : Bool) : TS := fun D σ H =>
  ta σ H fun vs H1 => spX K mg g gx vs H1 (fun _ H' => D.rt (.bl br) H') (fun cls d H' => ∃ b, PySem.W.exmOne K cls (.ref CA) = some b ∧
    (b = true → ∀ a : Addr, H' a = none → tCallS spAlk (fun _ _ _ _ => False) (tCons (tXf a cls d CA fl (tVar i)) (tCons tz tNil)) (σ.set i (some (.ref a))) H' D.rt) ∧ (b = false → False))
theorem tkN00 {X : Cx} : L2N.Takes X (fun _ _ _ _ => False) := takes_n tk00
theorem pss_TA {X : Cx} {C : Cfg} {S : Sc} {Γ : Tab} {n : Nat} {gx : List Sl → Option (Xc × PyData)} {t : Tf} {CA : Addr} {i g : Nat} {e : IE} {br : Bool} {zs : List Stmt} (hs : X.stack = X.env :: X.outer) (hf : X.env.frame = some X.env.locals) (hC : COk X C Γ n) (hn : 1 ≤ n) (hS : SOk X S) (T : XcOk X.K X.mg t.cls CA)
    (hfx : ∀ x, C.fns[t.f]? = some x → ∃ b, X.mg x = some (.ref b) ∧ FnXP X.prog X.w X.K X.mg X.base n b (Γ t.f) gx) (hal : ∀ x, C.fns[g]? = some x → AlkAt X x) (e1 : t.suite = .alk i g e) (e2 : t.ret = .bool br)
    (h : chkTB C S t zs = true) : PSs X zs (tTryA X.K X.mg (Γ t.f) gx (rV X.K Γ C.cons t.es) CA t.cls.fld i (tZ e) br) := by
  unfold chkTB at h
  split at h
  · rename_i y p1 z zs p2 p3 cx p4 nm b0 su p5 p6 b j p7 p8
    obtain ⟨h, h9⟩ := and2 h
    obtain ⟨h, h8⟩ := and2 h
    obtain ⟨h, h7⟩ := and2 h
    obtain ⟨h, h6⟩ := and2 h
    obtain ⟨h, h5⟩ := and2 h
    obtain ⟨h, h4⟩ := and2 h
    obtain ⟨h1, h2, h3⟩ := and3 h
    obtain rfl := of_decide_eq_true h6
    rw [e2] at h8
    obtain rfl : br = b := eq_of_beq h8
    rw [e1] at h9
    unfold chkSu at h9
    split at h9
    · contradiction
    · rename_i i' g' e' nm' y2 q1 n2 q2 fl q3 z2 q4 q5 hbb hsu
      cases hbb
      cases hsu
      obtain ⟨h9, k10⟩ := and2 h9
      obtain ⟨h9, k9⟩ := and2 h9
      obtain ⟨h9, k8⟩ := and2 h9
      obtain ⟨h9, k7⟩ := and2 h9
      obtain ⟨h9, k6⟩ := and2 h9
      obtain ⟨h9, k5⟩ := and2 h9
      obtain ⟨h9, k4⟩ := and2 h9
      obtain ⟨k1, k2, k3⟩ := and3 h9
      obtain rfl := of_decide_eq_true k4
      obtain rfl := of_decide_eq_true k8
      have hN : X.N[i]? = some n2 := by rw [hC.N]; exact of_decide_eq_true k5
      have hln : X.env.kindOf n2 = some .local := by
        show X.env.scope.names.lookup n2 = _
        rw [hS.sc]
        exact of_decide_eq_true k6
      obtain ⟨fa, m1, m2⟩ := hfx y (of_decide_eq_true h1)
      obtain ⟨ga, gfd, gps, n1, n3, n4, n5⟩ := (hal y2 (of_decide_eq_true k1)).ex
      have gC : Gl X t.cls.name := gl_of hS h7
      have gA : Gl X y2 := gl_of hS k2
      refine pss_mono (pss_cons (L2N.ps_try_as (X := X) (c := .ref CA) (ts := fun a cls d => tRet (tCallS spAlk (fun _ _ _ _ => False) (tCons (tXf a cls d CA t.cls.fld (tVar i)) (tCons (tZ e) tNil)))) (tb := fun W => tSeq (tDrop (tCX X.K X.mg (Γ t.f) gx W (rV X.K Γ C.cons t.es))) tNext) (Wout := fun _ _ _ _ => False) hs hf hC.nd hN hln ⟨gC, T.dbg, .inl T.gC⟩ tkN00
        (fun W pn xe tk _ => pss_one (ps_expr (pe_callX (X := X.tr pn xe) (p := p1) (pos := p2) m2 hC.room hC.guards tk (gl_of hS h2) m1 h3 (sV (X := X.tr pn xe) t.es ⟨hC.calm, hC.N, hC.nd, hC.room, hC.guards, hC.blt, hC.cons, hC.fns⟩ ⟨hS.sc, hS.fb⟩ _ h4) h5)))
        (fun a oe cls d pn zn ⟨vs, hv⟩ => ?_)) (pss_one (ps_ret pe_bl))) fun D σ H q => ?_
      · have hot : L2H.HotC (X.suite a ((a, oe) :: pn)) := ⟨(a, oe), ⟨rfl, vs, hv, zn.2.2 vs hv⟩, List.mem_cons_self⟩
        have pv : PE (X.suite a ((a, oe) :: pn)) (.Name n2 q2) (tVar i) := pe_var hN (.inl (by
          show X.env.scope.names.lookup n2 = _
          exact hln)) (okN_1 k7) (okN_2 k7)
        have pz : PE (X.suite a ((a, oe) :: pn)) z2 (tZ e) := pe_Z hC.N hS.sc k10
        have st2 : starEach [z2] X.env = (false, eval z2 X.env) :: starEach [] X.env := plain_star k9 _ _
        exact pss_one (ps_ret (L2H.pe_callH n5 ⟨(hC.room.mono hn).dp, (hC.room.mono hn).un⟩ hot gA n1 n3 n4 (fun σ _ _ _ _ _ _ c => c.elim) (pa_cons (pe_xf T.xf T.noN zn.zc ⟨vs, hv⟩ pv) (pa_cons pz pa_nil st2)) (okN_1 k3) rfl (by
          show (backTo q4 (starEach [z2] X.env)).any (·.1) = false
          exact plain_any (by rw [List.all_cons, k9]; rfl) _ _)))
      · exact q
    · cases h9
  · cases h
end PF

set_option maxHeartbeats 4000000
/-! PX5: a def with a try does what runTD tells. -/
namespace PF
open PySem PySem.Spec PyProof.Rows L2
theorem chkTB_i {C : Cfg} {S : Sc} {t : Tf} {i g : Nat} {e : IE} {zs : List Stmt} (h : chkTB C S t zs = true) (e1 : t.suite = .alk i g e) : ∃ nm, C.N[i]? = some nm := by
  unfold chkTB at h
  split at h
  · obtain ⟨h, h9⟩ := and2 h
    rw [e1] at h9
    unfold chkSu at h9
    split at h9
    · contradiction
    · rename_i i' g' e' nm' y2 q1 n2 q2 fl q3 z2 q4 q5 hbb hsu
      cases hbb
      obtain ⟨h9, k10⟩ := and2 h9
      obtain ⟨h9, k9⟩ := and2 h9
      obtain ⟨h9, k8⟩ := and2 h9
      obtain ⟨h9, k7⟩ := and2 h9
      obtain ⟨h9, k6⟩ := and2 h9
      obtain ⟨h9, k5⟩ := and2 h9
      exact ⟨_, of_decide_eq_true k5⟩
    · cases h9
  · cases h
theorem alkI_is {d : PyData} {o : Option PyData} {z : PyData} (h : alkI d o = some z) : ∃ n : Int, d = .int n ∧ n.natAbs.log2 < 1000 ∧ z = .bool true ∧ o = some (.int n) := by
  unfold alkI at h
  split at h
  · split at h
    · obtain ⟨⟨h1, h2⟩, h⟩ := oite h
      cases h
      subst h1
      exact ⟨_, rfl, h2, rfl, rfl⟩
    · cases h
  · cases h
theorem runH_alk {d z : PyData} {env : En} {i g : Nat} {e : IE} (h : runH d env (.alk i g e) = some z) : ∃ n : Int, d = .int n ∧ n.natAbs.log2 < 1000 ∧ z = .bool true ∧ ((∃ j, e = .x j ∧ i ≠ j ∧ env.at j = some (.v (.int n))) ∨ e = .k (.int n)) := by
  cases e with
  | x j =>
    have h : (if i = j then none else alkI d (match env.at j with
      | some (.v z) => some z
      | _ => none)) = some z := h
    split at h
    · cases h
    · rename_i hij
      obtain ⟨n, h1, h2, h3, h4⟩ := alkI_is h
      refine ⟨n, h1, h2, h3, .inl ⟨j, rfl, hij, ?_⟩⟩
      split at h4
      · rename_i q
        cases h4
        exact q
      · cases h4
  | k c =>
    have h : alkI d (some c) = some z := h
    obtain ⟨n, h1, h2, h3, h4⟩ := alkI_is h
    cases h4
    exact ⟨n, h1, h2, h3, .inr rfl⟩
  | _ => cases h
theorem runTD_none {cons : List (Str × PyData)} {FU : Nat} {f : Fn} {t : Tf} {as : List Sl} : runTD (fun _ _ => none) (fun _ _ => none) cons FU f t as = none := by
  unfold runTD
  split
  · cases runV (fun _ _ => none) cons t.es (startE f.N.length as) with
    | none => rfl
    | some p =>
      show (getD p.1).bind _ = none
      cases getD p.1 <;> rfl
  · rfl
/-- THE DEF WITH A TRY -/
theorem fn_T {P : Program} {w : World} {K : PySem.W.Frag} {mg : Str → Option Value} {base : Heap} {fns : List Str} {cons : List (Str × PyData)} {f : Fn} {t : Tf} {st : Stmt} {qual : Str} {a CA : Addr} {fd : FuncData} {Γ : Tab} {Γx : TabX} {n FU : Nat} (hmo : t.more = none)
    (FF : Fun K f.name qual st a fd) (hc : chkTD fns cons f t st = true) (hblt : ∀ x ∈ blts, mg x = none) (hcons : ∀ x d, cons.lookup x = some d → ∃ u v, mg x = some u ∧ RelV v u ∧ ∀ F, Dq K F v d)
    (hfns : ∀ g x, fns[g]? = some x → ∃ b, mg x = some (.ref b) ∧ FnP P w K mg base n b (Γ g)) (hfx : ∀ g x, fns[g]? = some x → ∃ b, mg x = some (.ref b) ∧ FnXP P w K mg base n b (Γ g) (Γx g)) (T : XcOk K mg t.cls CA)
    (hk : (∃ bs br, t.suite = .k (.bool bs) ∧ t.ret = .bool br) ∨ ∃ i g e br, t.suite = .alk i g e ∧ t.ret = .bool br ∧ 1 ≤ n ∧ ∀ x, fns[g]? = some x → ∃ a fd ps, mg x = some (.ref a) ∧ PySem.W.keepIn K (.ref a) = true ∧ L2.Binds K fd ps [] ∧ L2H.FnH P w K mg base CX0 1 a fd ps spAlk) : FnG P w K mg base (n + 1) a fd f.ps (runTD Γ Γx cons FU f t) := by
  unfold chkTD at hc
  obtain ⟨hc1, hc2⟩ := and2 hc
  have SC := scope_of hc1
  obtain ⟨oc, od, kV, doc, pm, an, cdv, ct, osl, rfl, lk, hcd⟩ := FF.ex
  have hlen : ∀ as r, runTD Γ Γx cons FU f t as = some r → as.length = f.ps.length := fun as r e => by
    unfold runTD at e
    exact (oite e).1.1
  refine ⟨hlen, fun A outer s H args us vs Q hr hg e0 hb rv hsp => ?_⟩
  obtain ⟨F, as, r, l, sm, en, pa, uni, eg, post⟩ := hsp
  have hl : vs.length = f.ps.length := by rw [paired_len pa, hlen as _ eg]
  have KX : K.In s.heap := e0.mod.kin.keeps fun b o e => (e0.bs b o e).1
  have lim : s.heap.NoLimit := e0.mod.nolimit.keeps fun b o e => (e0.bs b o e).1
  have hkind : ∀ y ∈ f.ps.zip us, (defScope st).names.lookup y.1 = some .local ∨ ((defScope st).names.lookup y.1 = some .cell ∧ ((cellsFrom (s.heap.objs.size + 1) (defScope st).names []).lookup y.1).isSome = true) := fun ⟨m, v⟩ hy => by
    rcases SC.par m (List.of_mem_zip hy).1 with q | q
    · exact .inl q
    · exact .inr ⟨q, PySem.W.cellsFrom_some _ _ _ (.inl q)⟩
  refine codeAny_call_function hr.depth (KX _ _ lk) rfl SC.co SC.gen rfl (PySem.W.codeRec_of KX hcd) (hb _ _ _ _ ?_)
  refine wpAny_newFunctionEnv_cells SC.kind hkind fun env he s1 x => ?_
  subst he
  refine ⟨lim.keeps x.toInCall.keep, codeAny_func ?_⟩
  have I : L2.Inv (cxOf CX0 P w K mg base f.N qual (defScope st) a cdv A outer s H E0) [] (L2.start f.N vs) H s1 := inv_start SC hr.hd e0 hl rv x
  have hC : COk (cxOf CX0 P w K mg base f.N qual (defScope st) a cdv A outer s H E0) ⟨f.N, fns, cons⟩ Γ n :=
    ⟨rfl, rfl, SC.nd, hr.deeper _, hg, hblt, hcons, hfns⟩
  have hS : SOk (cxOf CX0 P w K mg base f.N qual (defScope st) a cdv A outer s H E0) ⟨defScope st, fun _ => true⟩ := ⟨rfl, fun _ _ => rfl⟩
  unfold runTD at eg
  obtain ⟨⟨hal, pl⟩, eg⟩ := oite eg
  obtain ⟨p, e1, eg⟩ := obind eg
  obtain ⟨ds, e2, eg⟩ := obind eg
  have hσ : ∀ (i : Nat) (v : V), vs[i]? = some v → (L2.start f.N vs)[i]? = some (some v) := fun i v e => by
    have hi : i < vs.length := (List.getElem?_eq_some_iff.mp e).1
    unfold L2.start
    rw [List.getElem?_append_left (by rw [List.length_map]; exact hi), List.getElem?_map, e]
    rfl
  have nom : ∀ (i : Nat) (t : Sl) (c : Ob), (startE f.N.length as).at i = some t → t.m = some c → False := fun i t c e hm => by
    rw [start_at (vs := vs)] at e
    obtain ⟨v, ev, q⟩ := paired_get' pa e
    cases t with
    | v d => cases hm
    | o ds => exact q.elim
    | w ds => exact q.elim
    | b ds => exact plainAs_no pl e
  have R : Rel K ⟨H, F, fun _ _ => False⟩ (L2.start f.N vs) H F (startE f.N.length as) := by
    refine ⟨?_, sm, Same.refl _, fun b o e _ _ => e, fun b e => e, fun b e => .inl e, fun i d e => ?_, fun i t ds e hm => (nom i t ds e hm).elim, fun i j p ne z1 z2 _ _ => ?_, Tm.refl _, en.start⟩
    · unfold startE L2.start
      rw [List.length_append, List.length_map, List.length_replicate, List.length_append, List.length_map, List.length_replicate, paired_len pa]
    · rw [start_at (vs := vs)] at e
      obtain ⟨v, ev, q⟩ := paired_get' pa e
      exact ⟨v, hσ i v ev, q⟩
    · obtain ⟨t1, d1, e1, m1⟩ := z1
      exact nom i t1 d1 e1 m1
  have nol : ∀ {vs : List V} {as : List Sl} {b : Addr}, plainAs as = true → ¬ LentAt vs as b := fun {vs as b} h ⟨i, ds, z, _⟩ => plainAs_no h z
  -- the end
  have fin : ∀ (H1 F1 H' F' : Hp) (b : Bool), Rel K ⟨H, F, fun _ _ => False⟩ (L2.start f.N vs) H1 F1 p.2 → Same F1 F' → Same F' H' → (∀ b o, H1 b = some o → NT o → H' b = some o) → (∀ b, H1 b ≠ none → H' b ≠ none) → Tm K H1 H' → (∀ b, F' b ≠ none → F1 b ≠ none ∨ H1 b = none) → some (Sl.v (PyData.bool b), ([] : List PyData)) = some (r, l) → Q (.bl b) H' := fun H1 F1 H' F' b R1 m1 m2 kp lv tm fr eo => by
    cases eo
    refine post (.bl b) H' F' ⟨R1.base.trans m1, m2, fun c o e nt _ => kp c o (R1.fro c o e nt fun i z => z) nt, fun c e => lv c (R1.live c e), fun c e => ?_, .bl b, fun q z => absurd z (nol pl), R1.tabs.trans tm⟩
    rcases fr c e with z | z
    · exact R1.new c z
    · refine .inr ?_
      cases ho : H c with
      | none => rfl
      | some o => exact absurd z (R1.live c (by
        show H c ≠ none
        rw [ho]
        simp))
  suffices go : ∃ tB : TS, PSs (cxOf CX0 P w K mg base f.N qual (defScope st) a cdv A outer s H E0) (defBody st) tB ∧ tB { nx := fun _ H' => Q .non H', rt := Q } (L2.start f.N vs) H by
    obtain ⟨tB, body, want⟩ := go
    refine wpAny_mono (body.run [] s1 (L2.start f.N vs) H { nx := fun _ H' => Q .non H', rt := Q } I want) (fun fl s' hs => ?_) fun e s' hs => hs
    have back : ∀ {σ' : L2.St} {H' : Hp} {v : V} {u : Value}, L2.Inv (cxOf CX0 P w K mg base f.N qual (defScope st) a cdv A outer s H E0) [] σ' H' s' → RelV v u → Q v H' → CE outer P w H s Q u s' :=
      fun {σ' H' v u} J rv q => ⟨v, H', J.os, J.bare, J.base, J.hok, rv, q⟩
    cases fl with
    | ret u =>
      obtain ⟨v, σ', H', J, rv, q⟩ := hs
      exact back J rv q
    | next =>
      obtain ⟨σ', H', J, q⟩ := hs
      exact back (v := V.non) (u := Value.none) J rfl q
    | brk =>
      obtain ⟨_, _, _, q⟩ := hs
      exact False.elim q
    | cont =>
      obtain ⟨_, _, _, q⟩ := hs
      exact False.elim q
  rcases hk with ⟨bs, br, k1, k2⟩ | ⟨i, g, e, br, k1, k2, hn, hal⟩
  · refine ⟨_, pss_T (f := f) rfl rfl hC hS T (fun x hx => hfx t.f x hx) k1 k2 hc2, ?_⟩
    refine ⟨_, F, _, p.1, p.2, R, e1, fun ws H1 F1 R1 E1 pw => ?_⟩
    refine ⟨F1, ds.map .v, R1.sub, R1.entF, paired_getD pw e2 H1, plainAs_map ds, ?_⟩
    cases hx : Γx t.f (ds.map .v) with
    | none =>
      rw [hx] at eg
      obtain ⟨rg, e3, eg⟩ := obind eg
      refine .inl ⟨rg.1, rg.2, rfl, e3, fun v H' F' fp => ?_⟩
      rw [hmo] at eg
      simp only [k2] at eg
      exact fin H1 F1 H' F' br R1 fp.mono fp.sub (fun c o e nt => fp.keep c o e nt (nol (plainAs_map ds))) fp.live fp.tabs fp.fresh eg
    | some cd =>
      obtain ⟨c, d⟩ := cd
      rw [hx] at eg
      obtain ⟨hcc, eg⟩ := oite eg
      obtain ⟨z, e3, eg⟩ := obind eg
      rw [k1] at e3
      cases e3
      refine .inr ⟨c, d, rfl, fun C dx v H' F' TC xp hd hq => ?_⟩
      have hCA : C = CA := by
        have h1 : mg c.name = some (.ref C) := TC.gC
        rw [hcc, T.gC] at h1
        cases h1
        rfl
      subst hCA
      exact ⟨true, T.te, fun _ _ _ => fin H1 F1 H' F' bs R1 xp.mono xp.sub xp.keep xp.live xp.tabs xp.fresh eg, fun z => by cases z⟩
  · obtain ⟨nm, hi⟩ := chkTB_i hc2 k1
    have hiN : i < f.N.length := (List.getElem?_eq_some_iff.mp hi).1
    have hsl : (L2.start f.N vs).length = f.N.length := by
      have hps : f.ps.length ≤ f.N.length := by
        have := congrArg List.length SC.pre
        rw [List.length_take] at this
        omega
      unfold L2.start
      rw [List.length_append, List.length_map, List.length_replicate]
      omega
    refine ⟨_, pss_TA (X := cxOf CX0 P w K mg base f.N qual (defScope st) a cdv A outer s H E0) (g := g) rfl rfl hC hn hS T (fun x hx => hfx t.f x hx) (fun x hx => ⟨hal x hx⟩) k1 k2 hc2, ?_⟩
    refine ⟨_, F, _, p.1, p.2, R, e1, fun ws H1 F1 R1 E1 pw => ?_⟩
    refine ⟨F1, ds.map .v, R1.sub, R1.entF, paired_getD pw e2 H1, plainAs_map ds, ?_⟩
    cases hx : Γx t.f (ds.map .v) with
    | none =>
      rw [hx] at eg
      obtain ⟨rg, e3, eg⟩ := obind eg
      refine .inl ⟨rg.1, rg.2, rfl, e3, fun v H' F' fp => ?_⟩
      rw [hmo] at eg
      simp only [k2] at eg
      exact fin H1 F1 H' F' br R1 fp.mono fp.sub (fun c o e nt => fp.keep c o e nt (nol (plainAs_map ds))) fp.live fp.tabs fp.fresh eg
    | some cd =>
      obtain ⟨c, d⟩ := cd
      rw [hx] at eg
      obtain ⟨hcc, eg2⟩ := oite eg
      obtain ⟨z, e3, eg3⟩ := obind eg2
      rw [k1] at e3
      obtain ⟨m, rfl, hm, rfl, he⟩ := runH_alk e3
      subst hcc
      refine .inr ⟨t.cls, .int m, rfl, fun C dx v H' F' TC xp hd hq => ?_⟩
      have hCA : C = CA := by
        have h1 : mg t.cls.name = some (.ref C) := TC.gC
        rw [T.gC] at h1
        cases h1
        rfl
      subst hCA
      cases hq
      refine ⟨true, T.te, fun _ b hb => ?_, fun z => by cases z⟩
      have last : spAlk [.int m, .int m] H' Q (fun _ _ _ => False) := ⟨m, rfl, hm, fin H1 F1 H' F' true R1 xp.mono xp.sub xp.keep xp.live xp.tabs xp.fresh eg3⟩
      refine ⟨.ref b, ?_, rfl, rfl, dx, [(t.cls.fld, .int m)], .int m, rfl, hd, by simp, ?_⟩
      · rw [List.getElem?_set_self (by rw [hsl]; exact hiN)]
      · rcases he with ⟨j, rfl, hij, hat⟩ | rfl
        · obtain ⟨w', z1, z2⟩ := R1.val j _ hat
          cases z2
          refine ⟨.int m, ?_, last⟩
          rw [List.getElem?_set_ne hij]
          exact z1
        · exact last
end PF

set_option maxHeartbeats 4000000
/-! PX6: a def that is a try of a call whose result a name takes, an except suite that asks three things, and what follows. -/
namespace PF
open PySem PySem.Spec PyProof.Rows L2
/-! ### isinstance of the error that the suite holds -/
def rIsD (K : PySem.W.Frag) (cls : Value) (a : Addr) : List V → Hp → VK → Prop := fun xs H Q => ∃ D, cls = .ref D ∧ XcIs K D ∧ xs = [.ref a, .ty "ValueError"] ∧ Q (.bl true) H
theorem kit_ve {K : PySem.W.Frag} {D : Addr} (h : PySem.W.subIn K (.ref D) (.type "ValueError") = some true) : PySem.W.kitOne K (.ref D) (.type "ValueError") = some true := by
  unfold PySem.W.kitOne
  rw [if_neg (fun h => by cases (beq_iff_eq.mp h))]
  unfold PySem.W.kitCls
  simp only
  rw [if_pos (by decide +kernel)]
  exact h
theorem call_isD {X : Cx} {a : Addr} {cls : Value} {d : Option Addr} {oe : Obj} {pn : List (Addr × Obj)} (hz : Zc cls d oe) (hf : ∃ vs, oe.data = .fields vs) : CallR (X.suite a ((a, oe) :: pn)) (.builtin "isinstance") (fun xs H Q => (∃ dd fs, d = some dd ∧ H dd = some (.xd fs)) ∧ rIsD X.K cls a xs H Q) := by
  intro pins s σ H xs us Q I r h
  obtain ⟨⟨dd, fs, rfl, ea⟩, D, rfl, C, rfl, q⟩ := h
  cases r with
  | cons rx rr =>
    cases rr with
    | cons rt rr =>
      cases rr
      cases rx
      obtain rfl := rt
      obtain ⟨hget, _⟩ := I.pin (a, oe) (List.mem_append.mpr (.inl List.mem_cons_self))
      obtain ⟨vs, hv⟩ := hf
      have hx : ObjOk X.prog X.w H s.heap dd (.xd fs) := I.hok dd _ ea
      obtain ⟨mA, hns, hr⟩ := hx
      obtain ⟨od, ho, hl⟩ := lookIn_ns hns
      have J : PySem.W.InstAt s.heap a oe D (some od) := ⟨hget, hz.1, by unfold PySem.W.notCls; rw [hv] <;> rfl, by rw [hz.2]; exact ho⟩
      exact PySem.W.kia_one (PySem.W.kitx_exc C.cl C.ga C.gt C.sb C.ha C.hn C.ht C.hm) I.kIn J (kit_ve C.ve) (fun z => nomatch z) fun tk => ⟨.bl true, H, I.kept (t' := tk) fun _ _ z => z, rfl, q⟩
/-! ### the text -/
def chkGa (C : Cfg) (S : Sc) (c : Xc) : Hx → Option Str → List Stmt → Bool
  | .ga j m i g e, some nm, [.Return (some (.BoolOp .And [.Compare (.Name yj _) [.Gt] [.Constant (.int m') _ _] _, .Call (.Name y _) [.Attribute (.Name n2 _) fl _, z] [] _, .Call (.Name isn _) [.Name n3 _, .Name ve _] [] _] _)) _] =>
    decide (C.fns[g]? = some y) && glS S y && okN y && decide (n2 = nm) && decide (C.N[i]? = some nm) && decide (S.sc.names.lookup nm = some .local) && okN nm && decide (fl = c.fld) && plainA z && chkZ C S e z &&
      nmS C S j yj && decide (m = m') && decide (n3 = nm) && decide (isn = "isinstance") && glS S isn && decide (ve = "ValueError") && glS S ve
  | _, _, _ => false
def chkTB2 (C : Cfg) (S : Sc) (t : Tf) (x : Nat × IB) : List Stmt → Bool
  | .Try [.Assign [.Name v _] (.Call (.Name y _) (z :: zs) [] _) _] [.ExceptHandler (some (.Name cx _)) nm (b0 :: su) _] [] [] _ :: rest =>
    decide (C.fns[t.f]? = some y) && glS S y && okN y && chkL C S t.es (z :: zs) && (z :: zs).all plainA && decide (cx = t.cls.name) && glS S cx && tgS C S x.1 v && chkGa C S t.cls t.suite nm (b0 :: su) && chkB C S x.2 rest
  | _ => false
def chkTD2 (fns : List Str) (cons : List (Str × PyData)) (f : Fn) (t : Tf) (x : Nat × IB) (st : Stmt) : Bool :=
  scopeOk f.N f.ps (defScope st) && chkTB2 ⟨f.N, fns, cons⟩ ⟨defScope st, fun _ => true⟩ t x (defBody st)
theorem chkGa_suite {C : Cfg} {S : Sc} {c : Xc} {h : Hx} {nm : Option Str} {su : List Stmt} (e : chkGa C S c h nm su = true) : ∃ j m i g e', h = .ga j m i g e' := by
  unfold chkGa at e
  split at e
  · exact ⟨_, _, _, _, _, rfl⟩
  · cases e
theorem chkTD2_suite {fns : List Str} {cons : List (Str × PyData)} {f : Fn} {t : Tf} {x : Nat × IB} {st : Stmt} (h : chkTD2 fns cons f t x st = true) : ∃ j m i g e, t.suite = .ga j m i g e := by
  unfold chkTD2 at h
  obtain ⟨_, h⟩ := and2 h
  unfold chkTB2 at h
  split at h
  · obtain ⟨h, _⟩ := and2 h
    obtain ⟨h, h9⟩ := and2 h
    exact chkGa_suite h9
  · cases h
/-- what the try and what follows do -/
def tTry2 (K : PySem.W.Frag) (mg : Str → Option Value) (g : DefG) (gx : List Sl → Option (Xc × PyData)) (ta : TA) (CA : Addr) (fl : Str) (j : Nat) (m : Int) (i : Nat) (tz : TE) (iv : Nat) (tr : TS) : TS := fun D σ H =>
  ta σ H fun vs H1 => spX K mg g gx vs H1 (fun v H' => tr D (σ.set iv (some v)) H') (fun cls d H' => ∃ b, PySem.W.exmOne K cls (.ref CA) = some b ∧
    (b = true → ∀ a : Addr, H' a = none → tAndV (tOp (rI0 fun i j => .bl (decide (j < i))) (tVar j) (tC (.int m))) (tAndV (tCallS spAlk (fun _ _ _ _ => False) (tCons (tXf a cls d CA fl (tVar i)) (tCons tz tNil)))
      (tCB (fun xs H Q => (∃ dd fs, d = some dd ∧ H dd = some (.xd fs)) ∧ rIsD K cls a xs H Q) (tCons (tVar i) (tCons (tC (.ty "ValueError")) tNil)))) (σ.set i (some (.ref a))) H' D.rt) ∧ (b = false → False))
theorem pss_T2 {X : Cx} {C : Cfg} {S : Sc} {Γ : Tab} {n FU : Nat} {gx : List Sl → Option (Xc × PyData)} {t : Tf} {x : Nat × IB} {CA : Addr} {j i g : Nat} {m : Int} {e : IE} {zs : List Stmt} (hs : X.stack = X.env :: X.outer) (hf : X.env.frame = some X.env.locals) (hC : COk X C Γ n) (hn : 1 ≤ n) (hS : SOk X S) (T : XcOk X.K X.mg t.cls CA)
    (hfx : ∀ x, C.fns[t.f]? = some x → ∃ b, X.mg x = some (.ref b) ∧ FnXP X.prog X.w X.K X.mg X.base n b (Γ t.f) gx) (hal : ∀ x, C.fns[g]? = some x → AlkAt X x) (e1 : t.suite = .ga j m i g e)
    (h : chkTB2 C S t x zs = true) : PSs X zs (tTry2 X.K X.mg (Γ t.f) gx (rV X.K Γ C.cons t.es) CA t.cls.fld j m i (tZ e) x.1 (rB X.K Γ C.cons FU x.2)) := by
  unfold chkTB2 at h
  split at h
  · rename_i v pv y p1 z zs p2 p3 cx p4 nm b0 su p5 p6 rest
    obtain ⟨h, h11⟩ := and2 h
    obtain ⟨h, h10⟩ := and2 h
    obtain ⟨h, h9⟩ := and2 h
    obtain ⟨h, h8⟩ := and2 h
    obtain ⟨h, h6⟩ := and2 h
    obtain ⟨h, h5⟩ := and2 h
    obtain ⟨h, h4⟩ := and2 h
    obtain ⟨h1, h2, h3⟩ := and3 h
    obtain rfl := of_decide_eq_true h6
    rw [e1] at h10
    unfold chkGa at h10
    split at h10
    · rename_i j' m' i' g' e' nm' yj q1 mm q2 q3 q4 y2 q5 n2 q6 fl q7 z2 q8 isn q9 n3 q10 ve q11 q12 q13 q14 hbb hsu hq
      cases hbb
      cases hsu
      obtain ⟨h10, k17⟩ := and2 h10
      obtain ⟨h10, k16⟩ := and2 h10
      obtain ⟨h10, k15⟩ := and2 h10
      obtain ⟨h10, k14⟩ := and2 h10
      obtain ⟨h10, k13⟩ := and2 h10
      obtain ⟨h10, k12⟩ := and2 h10
      obtain ⟨h10, k11⟩ := and2 h10
      obtain ⟨h10, k10⟩ := and2 h10
      obtain ⟨h10, k9⟩ := and2 h10
      obtain ⟨h10, k8⟩ := and2 h10
      obtain ⟨h10, k7⟩ := and2 h10
      obtain ⟨h10, k6⟩ := and2 h10
      obtain ⟨h10, k5⟩ := and2 h10
      obtain ⟨h10, k4⟩ := and2 h10
      obtain ⟨k1, k2, k3⟩ := and3 h10
      obtain rfl := of_decide_eq_true k4
      obtain rfl := of_decide_eq_true k8
      obtain rfl := of_decide_eq_true k12
      obtain rfl := of_decide_eq_true k13
      obtain rfl := of_decide_eq_true k14
      obtain rfl := of_decide_eq_true k16
      have hN : X.N[i]? = some n3 := by rw [hC.N]; exact of_decide_eq_true k5
      have hln : X.env.kindOf n3 = some .local := by
        show X.env.scope.names.lookup n3 = _
        rw [hS.sc]
        exact of_decide_eq_true k6
      obtain ⟨fa, m1, m2⟩ := hfx y (of_decide_eq_true h1)
      obtain ⟨ga, gfd, gps, n1, n4, n5, n6⟩ := (hal y2 (of_decide_eq_true k1)).ex
      have gC : Gl X t.cls.name := gl_of hS h8
      have gA : Gl X y2 := gl_of hS k2
      obtain ⟨t1, t2, t3⟩ := tg_of hC hS h9
      have hC0 : COk X.nox C Γ n := ⟨hC.calm, hC.N, hC.nd, hC.room, hC.guards, hC.blt, hC.cons, hC.fns⟩
      have hS0 : SOk X.nox S := ⟨hS.sc, hS.fb⟩
      refine pss_mono (pss_cons (L2N.ps_try_as (X := X) (c := .ref CA) (ts := fun a cls d => tRet (tAndV (tOp (rI0 fun i j => .bl (decide (j < i))) (tVar j) (tC (.int m))) (tAndV (tCallS spAlk (fun _ _ _ _ => False) (tCons (tXf a cls d CA t.cls.fld (tVar i)) (tCons (tZ e) tNil)))
          (tCB (fun xs H Q => (∃ dd fs, d = some dd ∧ H dd = some (.xd fs)) ∧ rIsD X.K cls a xs H Q) (tCons (tVar i) (tCons (tC (.ty "ValueError")) tNil)))))) (tb := fun W => tSeq (tAsg (tCX X.K X.mg (Γ t.f) gx W (rV X.K Γ C.cons t.es)) (gName x.1)) tNext) (Wout := fun _ _ _ _ => False) hs hf hC.nd hN hln ⟨gC, T.dbg, .inl T.gC⟩ tkN00
        (fun W pn xe tk _ => pss_one (ps_set hC.nd t1 t2 (pe_callX (X := X.tr pn xe) (p := p1) (pos := p2) m2 hC.room hC.guards tk (gl_of hS h2) m1 h3 (sV (X := X.tr pn xe) t.es ⟨hC.calm, hC.N, hC.nd, hC.room, hC.guards, hC.blt, hC.cons, hC.fns⟩ ⟨hS.sc, hS.fb⟩ _ h4) h5) rfl t3))
        (fun a oe cls d pn zn ⟨vs, hv⟩ => ?_)) (sB (FU := FU) hC0 hS0 rfl x.2 rest h11).nox) fun D σ H q => ?_
      · have hot : L2H.HotC (X.suite a ((a, oe) :: pn)) := ⟨(a, oe), ⟨rfl, vs, hv, zn.2.2 vs hv⟩, List.mem_cons_self⟩
        have pv : ∀ q6, PE (X.suite a ((a, oe) :: pn)) (.Name n3 q6) (tVar i) := fun q6 => pe_var hN (.inl (by
          show X.env.scope.names.lookup n3 = _
          exact hln)) (okN_1 k7) (okN_2 k7)
        have pz : PE (X.suite a ((a, oe) :: pn)) z2 (tZ e) := pe_Z hC.N hS.sc k10
        have pj : PE (X.suite a ((a, oe) :: pn)) (.Name yj q1) (tVar j) := pe_Z (e := .x j) (z := .Name yj q1) hC.N hS.sc k11
        have st2 : starEach [z2] X.env = (false, eval z2 X.env) :: starEach [] X.env := plain_star k9 _ _
        have hve : X.mg "ValueError" = none := T.gV
        have pt : PE (X.suite a ((a, oe) :: pn)) (.Name "ValueError" q11) (tC (.ty "ValueError")) := pe_bltn (gl_of hS k17) hve (by decide +kernel) rfl (by decide +kernel) (by decide +kernel)
        have c1 : PE (X.suite a ((a, oe) :: pn)) (.Call (.Name y2 q5) [.Attribute (.Name n3 q6) t.cls.fld q7, z2] [] q8) (tCallS spAlk (fun _ _ _ _ => False) (tCons (tXf a cls d CA t.cls.fld (tVar i)) (tCons (tZ e) tNil))) := L2H.pe_callH n6 ⟨(hC.room.mono hn).dp, (hC.room.mono hn).un⟩ hot gA n1 n4 n5 (fun σ _ _ _ _ _ _ c => c.elim) (pa_cons (pe_xf T.xf T.noN zn.zc ⟨vs, hv⟩ (pv q6)) (pa_cons pz pa_nil st2)) (okN_1 k3) rfl (by
          show (backTo q8 (starEach [z2] X.env)).any (·.1) = false
          exact plain_any (by rw [List.all_cons, k9]; rfl) _ _)
        have c2 := pe_callB (X := X.suite a ((a, oe) :: pn)) (p := q9) (pos := q12) (call_isD (X := X) (pn := pn) zn.zc ⟨vs, hv⟩) (gl_of hS k15) (hC.blt _ (by decide)) (by decide +kernel) (pa_cons (pv q10) (pa_cons pt pa_nil rfl) rfl) (by decide +kernel) (by decide +kernel) rfl rfl
        exact pss_one (ps_ret (pe_and (pe_cmpR op_gt pj pe_int rfl) (pe_and c1 (pe_one c2))))
      · exact q
    · cases h10
  · cases h
theorem chkTB2_i {C : Cfg} {S : Sc} {t : Tf} {x : Nat × IB} {j i g : Nat} {m : Int} {e : IE} {zs : List Stmt} (h : chkTB2 C S t x zs = true) (e1 : t.suite = .ga j m i g e) : ∃ nm, C.N[i]? = some nm := by
  unfold chkTB2 at h
  split at h
  · obtain ⟨h, _⟩ := and2 h
    obtain ⟨h, h9⟩ := and2 h
    rw [e1] at h9
    unfold chkGa at h9
    split at h9
    · rename_i hbb hsu hq
      cases hbb
      obtain ⟨h9, _⟩ := and2 h9
      obtain ⟨h9, _⟩ := and2 h9
      obtain ⟨h9, _⟩ := and2 h9
      obtain ⟨h9, _⟩ := and2 h9
      obtain ⟨h9, _⟩ := and2 h9
      obtain ⟨h9, _⟩ := and2 h9
      obtain ⟨h9, _⟩ := and2 h9
      obtain ⟨h9, _⟩ := and2 h9
      obtain ⟨h9, _⟩ := and2 h9
      obtain ⟨h9, _⟩ := and2 h9
      obtain ⟨h9, _⟩ := and2 h9
      obtain ⟨h9, _⟩ := and2 h9
      obtain ⟨h9, k5⟩ := and2 h9
      exact ⟨_, of_decide_eq_true k5⟩
    · cases h9
  · cases h
theorem runG2_is {d z : PyData} {env : En} {i j g : Nat} {m : Int} {e : IE} (h : runG2 d env (.ga j m i g e) = some z) : ∃ n k : Int, d = .int n ∧ n.natAbs.log2 < 1000 ∧ z = .bool true ∧ env.at j = some (.v (.int k)) ∧ m < k ∧ i ≠ j ∧ ((∃ j, e = .x j ∧ i ≠ j ∧ env.at j = some (.v (.int n))) ∨ e = .k (.int n)) := by
  have h : (match env.at j with
    | some (.v (.int n)) => if m < n ∧ ¬ i = j then runH d env (.alk i g e) else none
    | _ => none) = some z := h
  split at h
  · rename_i k hk
    obtain ⟨⟨h1, h2⟩, h⟩ := oite h
    obtain ⟨n, a, b, c, d⟩ := runH_alk h
    exact ⟨n, k, a, b, c, hk, h1, h2, d⟩
  · cases h
/-- THE DEF WITH A TRY, AND WHAT FOLLOWS -/
theorem fn_T2 {P : Program} {w : World} {K : PySem.W.Frag} {mg : Str → Option Value} {base : Heap} {fns : List Str} {cons : List (Str × PyData)} {f : Fn} {t : Tf} {y : Nat × IB} {j i g : Nat} {m : Int} {e : IE} {st : Stmt} {qual : Str} {a CA : Addr} {fd : FuncData} {Γ : Tab} {Γx : TabX} {n FU : Nat} (hmo : t.more = some y) (hsu : t.suite = .ga j m i g e)
    (FF : Fun K f.name qual st a fd) (hc : chkTD2 fns cons f t y st = true) (hblt : ∀ x ∈ blts, mg x = none) (hcons : ∀ x d, cons.lookup x = some d → ∃ u v, mg x = some u ∧ RelV v u ∧ ∀ F, Dq K F v d)
    (hfns : ∀ g x, fns[g]? = some x → ∃ b, mg x = some (.ref b) ∧ FnP P w K mg base n b (Γ g)) (hfx : ∀ g x, fns[g]? = some x → ∃ b, mg x = some (.ref b) ∧ FnXP P w K mg base n b (Γ g) (Γx g)) (T : XcOk K mg t.cls CA) (hn : 1 ≤ n)
    (hal : ∀ x, fns[g]? = some x → ∃ a fd ps, mg x = some (.ref a) ∧ PySem.W.keepIn K (.ref a) = true ∧ L2.Binds K fd ps [] ∧ L2H.FnH P w K mg base CX0 1 a fd ps spAlk) : FnG P w K mg base (n + 1) a fd f.ps (runTD Γ Γx cons FU f t) := by
  unfold chkTD2 at hc
  obtain ⟨hc1, hc2⟩ := and2 hc
  have SC := scope_of hc1
  obtain ⟨oc, od, kV, doc, pm, an, cdv, ct, osl, rfl, lk, hcd⟩ := FF.ex
  have hlen : ∀ as r, runTD Γ Γx cons FU f t as = some r → as.length = f.ps.length := fun as r e => by
    unfold runTD at e
    exact (oite e).1.1
  refine ⟨hlen, fun A outer s H args us vs Q hr hg e0 hb rv hsp => ?_⟩
  obtain ⟨F, as, r, l, sm, en, pa, uni, eg, post⟩ := hsp
  have hl : vs.length = f.ps.length := by rw [paired_len pa, hlen as _ eg]
  have KX : K.In s.heap := e0.mod.kin.keeps fun b o e => (e0.bs b o e).1
  have lim : s.heap.NoLimit := e0.mod.nolimit.keeps fun b o e => (e0.bs b o e).1
  have hkind : ∀ y ∈ f.ps.zip us, (defScope st).names.lookup y.1 = some .local ∨ ((defScope st).names.lookup y.1 = some .cell ∧ ((cellsFrom (s.heap.objs.size + 1) (defScope st).names []).lookup y.1).isSome = true) := fun ⟨m, v⟩ hy => by
    rcases SC.par m (List.of_mem_zip hy).1 with q | q
    · exact .inl q
    · exact .inr ⟨q, PySem.W.cellsFrom_some _ _ _ (.inl q)⟩
  refine codeAny_call_function hr.depth (KX _ _ lk) rfl SC.co SC.gen rfl (PySem.W.codeRec_of KX hcd) (hb _ _ _ _ ?_)
  refine wpAny_newFunctionEnv_cells SC.kind hkind fun env he s1 x => ?_
  subst he
  refine ⟨lim.keeps x.toInCall.keep, codeAny_func ?_⟩
  have I : L2.Inv (cxOf CX0 P w K mg base f.N qual (defScope st) a cdv A outer s H E0) [] (L2.start f.N vs) H s1 := inv_start SC hr.hd e0 hl rv x
  have hC : COk (cxOf CX0 P w K mg base f.N qual (defScope st) a cdv A outer s H E0) ⟨f.N, fns, cons⟩ Γ n :=
    ⟨rfl, rfl, SC.nd, hr.deeper _, hg, hblt, hcons, hfns⟩
  have hS : SOk (cxOf CX0 P w K mg base f.N qual (defScope st) a cdv A outer s H E0) ⟨defScope st, fun _ => true⟩ := ⟨rfl, fun _ _ => rfl⟩
  unfold runTD at eg
  obtain ⟨⟨hal2, pl⟩, eg⟩ := oite eg
  obtain ⟨p, e1, eg⟩ := obind eg
  obtain ⟨ds, e2, eg⟩ := obind eg
  have hσ : ∀ (i : Nat) (v : V), vs[i]? = some v → (L2.start f.N vs)[i]? = some (some v) := fun i v e => by
    have hi : i < vs.length := (List.getElem?_eq_some_iff.mp e).1
    unfold L2.start
    rw [List.getElem?_append_left (by rw [List.length_map]; exact hi), List.getElem?_map, e]
    rfl
  have nom : ∀ (i : Nat) (t : Sl) (c : Ob), (startE f.N.length as).at i = some t → t.m = some c → False := fun i t c e hm => by
    rw [start_at (vs := vs)] at e
    obtain ⟨v, ev, q⟩ := paired_get' pa e
    cases t with
    | v d => cases hm
    | o ds => exact q.elim
    | w ds => exact q.elim
    | b ds => exact plainAs_no pl e
  have R : Rel K ⟨H, F, fun _ _ => False⟩ (L2.start f.N vs) H F (startE f.N.length as) := by
    refine ⟨?_, sm, Same.refl _, fun b o e _ _ => e, fun b e => e, fun b e => .inl e, fun i d e => ?_, fun i t ds e hm => (nom i t ds e hm).elim, fun i j p ne z1 z2 _ _ => ?_, Tm.refl _, en.start⟩
    · unfold startE L2.start
      rw [List.length_append, List.length_map, List.length_replicate, List.length_append, List.length_map, List.length_replicate, paired_len pa]
    · rw [start_at (vs := vs)] at e
      obtain ⟨v, ev, q⟩ := paired_get' pa e
      exact ⟨v, hσ i v ev, q⟩
    · obtain ⟨t1, d1, e1, m1⟩ := z1
      exact nom i t1 d1 e1 m1
  have nol : ∀ {vs : List V} {as : List Sl} {b : Addr}, plainAs as = true → ¬ LentAt vs as b := fun {vs as b} h ⟨i, ds, z, _⟩ => plainAs_no h z
  -- the end
  have fin : ∀ (σ1 : L2.St) (env1 : En) (H1 F1 H' F' : Hp) (v : V), Rel K ⟨H, F, fun _ _ => False⟩ σ1 H1 F1 env1 → Same F1 F' → Same F' H' → (∀ b o, H1 b = some o → NT o → H' b = some o) → (∀ b, H1 b ≠ none → H' b ≠ none) → Tm K H1 H' → (∀ b, F' b ≠ none → F1 b ≠ none ∨ H1 b = none) → RV K H H' F' v r → Q v H' := fun σ1 env1 H1 F1 H' F' v R1 m1 m2 kp lv tm fr q => by
    refine post v H' F' ⟨R1.base.trans m1, m2, fun c o e nt _ => kp c o (R1.fro c o e nt fun i z => z) nt, fun c e => lv c (R1.live c e), fun c e => ?_, q, fun q z => absurd z (nol pl), R1.tabs.trans tm⟩
    rcases fr c e with z | z
    · exact R1.new c z
    · refine .inr ?_
      cases ho : H c with
      | none => rfl
      | some o => exact absurd z (R1.live c (by
        show H c ≠ none
        rw [ho]
        simp))
  obtain ⟨nm, hi⟩ := chkTB2_i hc2 hsu
  have hiN : i < f.N.length := (List.getElem?_eq_some_iff.mp hi).1
  have hsl : (L2.start f.N vs).length = f.N.length := by
    have hps : f.ps.length ≤ f.N.length := by
      have := congrArg List.length SC.pre
      rw [List.length_take] at this
      omega
    unfold L2.start
    rw [List.length_append, List.length_map, List.length_replicate]
    omega
  have body := pss_T2 (X := cxOf CX0 P w K mg base f.N qual (defScope st) a cdv A outer s H E0) (g := g) (FU := FU) rfl rfl hC hn hS T (fun x hx => hfx t.f x hx) (fun x hx => ⟨hal x hx⟩) hsu hc2
  refine wpAny_mono (body.run [] s1 (L2.start f.N vs) H { nx := fun _ H' => Q .non H', rt := Q } I ?_) (fun fl s' hs => ?_) fun e s' hs => hs
  · refine ⟨_, F, _, p.1, p.2, R, e1, fun ws H1 F1 R1 E1 pw => ?_⟩
    refine ⟨F1, ds.map .v, R1.sub, R1.entF, paired_getD pw e2 H1, plainAs_map ds, ?_⟩
    cases hx : Γx t.f (ds.map .v) with
    | none =>
      rw [hx] at eg
      obtain ⟨rg, e3, eg⟩ := obind eg
      rw [hmo] at eg
      simp only at eg
      refine .inl ⟨rg.1, rg.2, rfl, e3, fun v H' F' fp => ?_⟩
      obtain ⟨env1, e4, eg⟩ := obind eg
      obtain ⟨fl, e5, eg⟩ := obind eg
      obtain ⟨R2, E2⟩ := R1.growT fp.mono fp.sub (fun c o e nt => fp.keep c o e nt (nol (plainAs_map ds))) fp.live fp.fresh fp.tabs
      have R3 := setR R1 R2 E2 fp.res e4
      refine ⟨_, F', env1, fl, R3, e5, ?_⟩
      cases fl with
      | nx e =>
        cases eg
        exact fun σ' H2 F2 m2 R' => fin σ' e H2 F2 H2 F2 .non R' (Same.refl _) R'.sub (fun _ _ e _ => e) (fun _ e => e) (Tm.refl _) (fun _ e => .inl e) .non
      | rt r' e =>
        cases eg
        refine fun v' σ' H2 F2 m2 R' q => fin σ' e H2 F2 H2 F2 v' R' (Same.refl _) R'.sub (fun _ _ e _ => e) (fun _ e => e) (Tm.refl _) (fun _ e => .inl e) ?_
        cases r with
        | v d => exact q
        | b ds => exact q
        | o ds => exact q
        | w ds => exact q
      | bk e => cases eg
      | ct e => cases eg
    | some cd =>
      obtain ⟨c, d⟩ := cd
      rw [hx] at eg
      obtain ⟨hcc, eg2⟩ := oite eg
      obtain ⟨z, e3, eg3⟩ := obind eg2
      rw [hsu] at e3
      obtain ⟨k, kk, rfl, hm, rfl, hj, hmk, hij, he⟩ := runG2_is e3
      subst hcc
      refine .inr ⟨t.cls, .int k, rfl, fun C dx v H' F' TC xp hd hq => ?_⟩
      have hCA : C = CA := by
        have h1 : mg t.cls.name = some (.ref C) := TC.gC
        rw [T.gC] at h1
        cases h1
        rfl
      subst hCA
      cases hq
      refine ⟨true, T.te, fun _ b hb => ?_, fun z => by cases z⟩
      cases eg3
      have last : Q (.bl true) H' := fin _ _ H1 F1 H' F' (.bl true) R1 xp.mono xp.sub xp.keep xp.live xp.tabs xp.fresh (.bl true)
      have ati : ((L2.start f.N vs).set i (some (.ref b)))[i]? = some (some (.ref b)) := List.getElem?_set_self (by rw [hsl]; exact hiN)
      obtain ⟨w', z1, z2⟩ := R1.val j _ hj
      cases z2
      refine ⟨V.int kk, ?_, ?_⟩
      · rw [List.getElem?_set_ne hij]
        exact z1
      refine ⟨kk, m, rfl, rfl, decide (m < kk), rfl, ?_⟩
      rw [decide_eq_true hmk, if_pos rfl]
      have alk : spAlk [.int k, .int k] H' (fun v H1 => ∃ c, v = .bl c ∧ if c = true then tCB (fun xs H Q => (∃ dd fs, some dx = some dd ∧ H dd = some (.xd fs)) ∧ rIsD K (.ref C) b xs H Q) (tCons (tVar i) (tCons (tC (.ty "ValueError")) tNil)) ((L2.start f.N vs).set i (some (.ref b))) H1 Q else Q (.bl false) H1) (fun _ _ _ => False) :=
        ⟨k, rfl, hm, true, rfl, by
          rw [if_pos rfl]
          exact ⟨_, ati, ⟨dx, _, rfl, hd⟩, C, rfl, T.isx, rfl, last⟩⟩
      refine ⟨.ref b, ati, rfl, rfl, dx, [(t.cls.fld, .int k)], .int k, rfl, hd, by simp, ?_⟩
      rcases he with ⟨j2, rfl, hij2, hat⟩ | rfl
      · obtain ⟨w2, z1, z2⟩ := R1.val j2 _ hat
        cases z2
        refine ⟨.int k, ?_, alk⟩
        rw [List.getElem?_set_ne hij2]
        exact z1
      · exact alk
  have back : ∀ {σ' : L2.St} {H' : Hp} {v : V} {u : Value}, L2.Inv (cxOf CX0 P w K mg base f.N qual (defScope st) a cdv A outer s H E0) [] σ' H' s' → RelV v u → Q v H' → CE outer P w H s Q u s' :=
    fun {σ' H' v u} J rv q => ⟨v, H', J.os, J.bare, J.base, J.hok, rv, q⟩
  cases fl with
  | ret u =>
    obtain ⟨v, σ', H', J, rv, q⟩ := hs
    exact back J rv q
  | next =>
    obtain ⟨σ', H', J, q⟩ := hs
    exact back (v := V.non) (u := Value.none) J rfl q
  | brk =>
    obtain ⟨_, _, _, q⟩ := hs
    exact False.elim q
  | cont =>
    obtain ⟨_, _, _, q⟩ := hs
    exact False.elim q
end PF

set_option maxHeartbeats 4000000
/-! PL1: a lambda of one parameter: its names, its body's context, its call by the def that got it; the walk of the def that looks for the first. -/
namespace PF
open PySem PySem.Spec PyProof.Rows L2
/-! ### the lambda's names -/
/-- one parameter, no other name of its own: captured ones and globals -/
structure LamS1 (t : Str) (sc scope : Scope) : Prop where
  kind : scope.kind = .function
  co : scope.isCoroutine = false
  gen : scope.isGenerator = false
  par : scope.names.lookup t = some .local
  cell : ∀ y ∈ scope.names, y.2 ≠ .cell
  own : ∀ y ∈ scope.names, y.2 = .local → y.1 = t
  free : ∀ y ∈ scope.names, y.2 = .free → sc.names.lookup y.1 = some .cell ∨ sc.names.lookup y.1 = some .free
def lamS1B (t : Str) (sc scope : Scope) : Bool :=
  decide (scope.kind = .function) && !scope.isCoroutine && !scope.isGenerator && decide (scope.names.lookup t = some .local) && scope.names.all fun y => !decide (y.2 = .cell) && (!decide (y.2 = .local) || decide (y.1 = t)) && (!decide (y.2 = .free) || decide (sc.names.lookup y.1 = some .cell) || decide (sc.names.lookup y.1 = some .free))
theorem lamS1_by {t : Str} {sc scope : Scope} (h : lamS1B t sc scope = true) : LamS1 t sc scope := by
  unfold lamS1B at h
  simp only [Bool.and_eq_true, Bool.or_eq_true, Bool.not_eq_true', decide_eq_true_eq, decide_eq_false_iff_not, List.all_eq_true] at h
  obtain ⟨⟨⟨⟨h1, h2⟩, h3⟩, hp⟩, h4⟩ := h
  refine ⟨h1, h2, h3, hp, fun y hy => (h4 y hy).1.1, fun y hy e => ?_, fun y hy e => ?_⟩
  · rcases (h4 y hy).1.2 with z | z
    · exact absurd e z
    · exact z
  · rcases (h4 y hy).2 with (z | z) | z
    · exact absurd e z
    · exact .inl z
    · exact .inr z
theorem LamS1.has {t : Str} {X : Cx} {scope : Scope} (L : LamS1 t X.env.scope scope) (ok : X.Ok) : ∀ y ∈ scope.names, y.2 = .free → ∃ c, X.env.cells.lookup y.1 = some c := fun y hy e => by
  rcases L.free y hy e with k | k
  · exact ok.has _ (.inl k)
  · exact ok.has _ (.inr k)
section
variable {X : Cx} {pins : List (Addr × Obj)} {σ : L2.St} {H HZ : Hp} {s s1 : Shared}
open LamX
/-- the lambda's body is entered -/
theorem lam_start1 {t : Str} {i : Nat} {v : V} {u : Value} {A : Around} {outer : List Env} {E : XK} {scope : Scope} {f c' : Addr} {h₁ : Heap} {tk : Nat} (I : L2.Inv X pins σ H s) (L : LamS1 t X.env.scope scope) (nd : X.N.Nodup) (hi : X.N[i]? = some t) (rv : RelV v u)
    (e0 : Env0 X.prog X.w X.K X.mg X.base A outer s1 HZ) (hd : A.handled = none)
    (un : Un (frs X.stack) [] H HZ s.heap s1.heap) (hns : h₁.Ns s1.heap.objs.size fun y => ([(t, u)] : List (Str × Value)).reverse.lookup y) (kp : ∀ b o, s1.heap.get? b = some o → h₁.get? b = some o) :
    Inv (lamCx X A outer s1 HZ E scope f c') [] (σ.set i (some v)) HZ { s1 with heap := h₁, toks := tk } := by
  have hfree := L.has I.ok
  have cm : ∀ {y c}, (cloFrom X.env.cells scope.names []).lookup y = some c → X.env.cells.lookup y = some c := fun {y c} e => by
    rcases cloFrom_mem (PySem.mem_of_lookup e) with hm | ⟨h1, h2⟩
    · cases hm
    · obtain ⟨c1, hc⟩ := hfree _ h1 rfl
      have hc : X.env.cells.lookup y = some c1 := hc
      have e2 : c = c1 := by
        rw [h2, hc] <;> rfl
      rw [e2]
      exact hc
  have look : ∀ {y}, scope.names.lookup y = some .free → ∃ c, (cloFrom X.env.cells scope.names []).lookup y = some c := fun {y} hl => by
    have hy : (y, NameKind.free) ∈ scope.names := PySem.mem_of_lookup hl
    exact mem_lookup (cloFrom_has (cells := X.env.cells) (acc := []) hy)
  have cellK : ∀ {c : Addr} {v : Option Value}, H c = none → s.heap.IsCell c v → h₁.IsCell c v := fun {c v} n ⟨o, ho, hd⟩ => by
    obtain ⟨sl, q⟩ := un.any ho n (by simp)
    exact ⟨_, kp _ _ q, hd⟩
  have noA : ∀ b : Addr, b ∉ (lamCx X A outer s1 HZ E scope f c').ex := fun b z => absurd (show b ∈ ([] : List Addr) from z) (by simp)
  refine ⟨⟨e0.mod, L.kind, rfl, rfl, Nat.le_refl _, fun y z c e1 e2 => I.ok.inj y z c (cm e1) (cm e2), fun y hy => ?_, fun y c z _ => ?_, fun _ => hd, Around.frames_deeper e0.frames, .inr ⟨rfl, rfl⟩, fun b z => absurd z (noA b), e0.bs, e0.bsz, fun b _ _ => noA b,
      fun b z => absurd z (noA b), e0.funs, e0.frf⟩,
    rfl, e0.bare, Un.kept kp, ⟨_, hns, fun j y v' e1 e2 e3 => ?_⟩, fun y c e => ?_, e0.hok.fresh (Nat.le_refl _), fun y c e => ?_, fun q hq => absurd (show q ∈ ([] : List (Addr × Obj)) ++ [] from hq) (by simp), e0.hok.kept kp, by rw [List.length_set]; exact I.len⟩
  · have hy : scope.names.lookup y = some .cell ∨ scope.names.lookup y = some .free := hy
    rcases hy with hy | hy
    · exact absurd rfl (L.cell _ (PySem.mem_of_lookup hy))
    · exact look hy
  · have z : false = true := z
    cases z
  · have e3 : Vis scope y := e3
    have e1 : X.N[j]? = some y := e1
    by_cases hty : y = t
    · subst hty
      have hij : i = j := by
        obtain ⟨l1, q1⟩ := List.getElem?_eq_some_iff.mp hi
        obtain ⟨l2, q2⟩ := List.getElem?_eq_some_iff.mp e1
        exact (List.getElem_inj nd).mp (q1.trans q2.symm)
      subst hij
      have hl : i < σ.length := by
        rw [I.len]
        exact (List.getElem?_eq_some_iff.mp hi).1
      rw [List.getElem?_set_self hl] at e2
      cases e2
      refine ⟨u, rv, .inl ⟨L.par, ?_⟩⟩
      simp
    · have nj : i ≠ j := fun z => by
        rw [z, e1] at hi
        cases hi
        exact hty rfl
      rw [List.getElem?_set_ne nj] at e2
      rcases e3 with k | k | k
      · exact absurd (L.own _ (PySem.mem_of_lookup k) rfl) hty
      · exact absurd rfl (L.cell _ (PySem.mem_of_lookup k))
      · obtain ⟨m, hn, hl⟩ := I.loc
        have hvis : Vis X.env.scope y := (L.free _ (PySem.mem_of_lookup k) rfl).elim (fun k => .inr (.inl k)) (fun k => .inr (.inr k))
        obtain ⟨w', r, q⟩ := hl j y v' e1 e2 hvis
        obtain ⟨c2, h2⟩ := look k
        refine ⟨w', r, .inr ⟨.inr k, c2, h2, ?_⟩⟩
        have c1 := cm h2
        rcases q with ⟨k', _⟩ | ⟨_, c3, e', z⟩
        · have k' : X.env.scope.names.lookup y = some .local := k'
          rcases L.free _ (PySem.mem_of_lookup k) rfl with k2 | k2 <;> rw [show X.env.scope.names.lookup y = _ from k2] at k' <;> cases k'
        · rw [c1] at e'
          cases e'
          exact cellK (I.freeC y _ c1) z
  · obtain ⟨w', z⟩ := I.cell y c (cm e)
    exact ⟨w', cellK (I.freeC y c (cm e)) z⟩
  · obtain ⟨v, o, ho, hd⟩ := I.cell y c (cm e)
    exact un.free c o ho (I.freeC y c (cm e)) (by simp)
/-- x(e), in the def that got the lambda: Z is that def's context, entered at s -/
theorem pe_act1 {Ng : List Str} {qg : Str} {sg : Scope} {g f c' : Addr} {cdg pm ctv : Value} {params : Arguments} {body : Expr} {scope : Scope} {k i : Nat} {a t : Str} {tb : TE} {p1 p2 : Pos} {z : Expr} {te : TE}
    (I : L2.Inv X pins σ H s) (L : LamS1 t X.env.scope scope) (nd : X.N.Nodup) (hi : X.N[i]? = some t) (hf : s.heap.get? f = some (PySem.W.kla_obj "<lambda>" (X.env.qual ++ "<lambda>") params body scope (cloFrom X.env.cells scope.names []) pm c' ctv)) (hfn : H f = none) (hfr : f ∉ frs X.stack)
    (hbind : ∀ u : Value, bindArgs (PySem.W.kla_fn "<lambda>" (X.env.qual ++ "<lambda>") params body scope (cloFrom X.env.cells scope.names []) pm (.ref c') ctv) ⟨[u], []⟩ = pure [(t, u)])
    (hr : Room (k + 1) (X.A.deeper (envOfC qg sg s.heap.objs.size g cdg)))
    (hbody : ∀ (A : Around) (outer : List Env) (s : Shared) (H : Hp), Room k (A.deeper (lamEnv X scope s.heap.objs.size f c')) → A.guards = X.A.guards → PE (lamCx X A outer s H C8.E0 scope f c').nox body tb)
    (he : PE ((cxOf C8.CX0 X.prog X.w X.K X.mg X.base Ng qg sg g cdg X.A X.stack s H C8.E0).nox) z te) (hz : plainA z = true)
    (hN : Ng[0]? = some a) (hv : Vis sg a) (hd : (a == ("__debug__" : Str)) = false := by decide) (hcd : (a == ("__classdict__" : Str)) = false := by decide) :
    PE ((cxOf C8.CX0 X.prog X.w X.K X.mg X.base Ng qg sg g cdg X.A X.stack s H C8.E0).nox) (.Call (.Name a p1) [z] [] p2)
      (fun σZ HZ Q => σZ[0]? = some (some (.ref f)) ∧ te σZ HZ fun v H1 => H1 c' = some (CodeO c' (X.env.qual ++ "<lambda>")) ∧ tb (σ.set i (some v)) H1 Q) := by
  refine ⟨fun pinsZ sZ σZ HZ Q IZ h => ?_⟩
  obtain ⟨hs, ht⟩ := h
  refine wpAny_Call_Name_kw (thn ((pe_var (pos := p1) (i := 0) hN hv hd hcd).run pinsZ sZ σZ HZ (fun v H1 => v = .ref f ∧ H1 = HZ) IZ ⟨.ref f, hs, rfl, rfl⟩) fun u s1 ⟨v, H1, I1, r1, q1⟩ => ?_)
  obtain ⟨ev, eH⟩ := q1
  subst ev
  rw [eH] at I1
  obtain rfl : u = Value.ref f := r1
  have of1 : ∀ {s2 : Shared} {σ2 : L2.St} {H2 : Hp}, L2.Inv ((cxOf C8.CX0 X.prog X.w X.K X.mg X.base Ng qg sg g cdg X.A X.stack s H C8.E0).nox) pinsZ σ2 H2 s2 → s2.heap.get? f = some (PySem.W.kla_obj "<lambda>" (X.env.qual ++ "<lambda>") params body scope (cloFrom X.env.cells scope.names []) pm c' ctv) := fun I2 => I2.base.keep f _ hf hfn hfr (fun z => nomatch (show f ∈ ([] : List Addr) from z))
  refine PySem.W.callWith_F ⟨_, _, _, _, of1 I1⟩ (thn ((pa_cons he pa_nil (plain_star hz _ _)).run p2 pinsZ s1 σZ HZ (fun vs H2 => match vs with
    | [v] => H2 c' = some (CodeO c' (X.env.qual ++ "<lambda>")) ∧ tb (σ.set i (some v)) H2 Q
    | _ => False) I1 ?_) fun us s2 ⟨vs, H2, I2, r, q⟩ => ⟨⟨_, _, _, _, of1 I2⟩, ?_⟩) (plain_star hz _ _) (by rfl)
  · exact ht
  · have key : ∃ v u, vs = [v] ∧ us = [u] ∧ RelV v u := by
      cases r with
      | nil => exact q.elim
      | cons rv r' => cases r' with
        | nil => exact ⟨_, _, rfl, rfl, rv⟩
        | cons _ _ => exact q.elim
    obtain ⟨v, u, rfl, rfl, rv⟩ := key
    obtain ⟨hc, hq⟩ := q
    have un : Un (frs X.stack) [] H H2 s.heap s2.heap := I2.base
    obtain ⟨⟨oc, vs, t', hoc, hdc, hvc⟩, _, _⟩ := I2.hok c' _ hc
    have rc : codeAny (model X.prog X.w) (X.A.deeper (envOfC qg sg s.heap.objs.size g cdg)) (.call (.ref f) ⟨[u], []⟩) (CR C8.CX0 (envOfC qg sg s.heap.objs.size g cdg :: X.stack) X.prog X.w H2 s2 Q C8.E0) s2 := by
      refine PySem.W.kla_callFunE hr.depth (of1 I2) rfl L.co L.gen rfl ⟨c', oc, vs, t', rfl, hoc, hdc, hvc⟩ ?_
      rw [hbind]
      refine wpAny_pure (wpAny_newFunctionEnv (fun y hy => L.cell y hy) (fun y hy => ?_) (fun h₁ hns hsb => ⟨I2.nolimit.fresh _ hsb, ?_⟩) L.kind)
      · obtain rfl : y = (t, u) := List.mem_singleton.mp hy
        exact L.par
      show codeAny _ _ (.expr body (lamEnv X scope s2.heap.objs.size f c')) _ _
      have kp : ∀ b o, s2.heap.get? b = some o → h₁.get? b = some o := fun b o e => hsb.extBut b o (Nat.ne_of_lt (Heap.lt_size e)) (Heap.get?_push_of_some _ e)
      have J : L2.Inv (lamCx X (X.A.deeper (envOfC qg sg s.heap.objs.size g cdg)) (envOfC qg sg s.heap.objs.size g cdg :: X.stack) s2 H2 C8.E0 scope f c') [] (σ.set i (some v)) H2 { s2 with heap := h₁, toks := s2.toks + ([(t, u)] : List (Str × Value)).length } :=
        lam_start1 I L nd hi rv I2.env0 hr.hd un hns kp
      refine PySem.W.kla_codeExpr (wpAny_mono ((hbody _ _ s2 H2 (hr.deeper _) rfl).run [] _ _ H2 Q (J.wish _) hq) (fun v' s' hq => ?_) fun e s' hq => hq.elim)
      obtain ⟨w', H', J', rv', q'⟩ := hq
      exact ⟨w', H', J'.os, J'.bare, J'.base, J'.hok, rv', q'⟩
    refine wpAny_call (codeAny_mono rc fun r s' hq => ?_)
    cases r with
    | error e => exact (show False from hq).elim
    | ok fl =>
      cases fl with
      | ret u => exact I2.after hq
      | next => exact False.elim hq
      | brk => exact False.elim hq
      | cont => exact False.elim hq
end
end PF

set_option maxHeartbeats 4000000
/-! PL2: the walk of the def that looks for the first int of which a function tells. -/
namespace PF
open PySem PySem.Spec PyProof.Rows L2
def firstN : List Str := ["tells", "high", "low", "middle"]
/-- the def's text -/
def chkFirst (b : List Stmt) : Bool := match b with
  | [.Assign [.Name h1 _] (.Constant (.int 1) _ _) _,
     .While (.UnaryOp .Not (.Call (.Name t1 _) [.Name h2 _] [] _) _) [.Assign [.Name h3 _] (.BinOp (.Constant (.int 2) _ _) .Mult (.Name h4 _) _) _] [] _,
     .Assign [.Name l1 _] (.BinOp (.Name h5 _) .FloorDiv (.Constant (.int 2) _ _) _) _,
     .While (.Compare (.BinOp (.Name h6 _) .Sub (.Name l2 _) _) [.Gt] [.Constant (.int 1) _ _] _)
       [.Assign [.Name m1 _] (.BinOp (.BinOp (.Name l3 _) .Add (.Name h7 _) _) .FloorDiv (.Constant (.int 2) _ _) _) _,
        .Assign [.Tuple [.Name l4 _, .Name h8 _] _ _] (.IfExp (.Call (.Name t2 _) [.Name m2 _] [] _) (.Tuple [.Name l5 _, .Name m3 _] _ _) (.Tuple [.Name m4 _, .Name h9 _] _ _) _) _] [] _,
     .Return (some (.Name h10 _)) _] =>
    ([h1, h2, h3, h4, h5, h6, h7, h8, h9, h10].all fun x => decide (x = ("high" : Str))) && ([l1, l2, l3, l4, l5].all fun x => decide (x = ("low" : Str))) && ([m1, m2, m3, m4].all fun x => decide (x = ("middle" : Str))) &&
      ([t1, t2].all fun x => decide (x = ("tells" : Str)))
  | _ => false
theorem firstN_nd : firstN.Nodup := by decide
/-- THE DEF THAT LOOKS: what it returns, where a call of the function tells as p does -/
theorem first_walk {Z : Cx} (hx : Z.xe = fun _ _ => False) (hc : Z.calm = true) (hN : Z.N = firstN) (hl : ∀ x ∈ firstN, Z.env.scope.names.lookup x = some .local) {b : List Stmt} (hb : chkFirst b = true) {f : V} {St : Hp → Prop} {p : Int → Option Bool}
    (hst : ∀ H a xs, St H → H a = none → St (upd H a (.tup xs)))
    (hact : ∀ (i : Nat) (y : Str) (py p1 p2 : Pos), firstN[i]? = some y → PE Z (.Call (.Name "tells" p1) [.Name y py] [] p2) (fun σ H Q => σ[0]? = some (some f) ∧ ∃ n t, σ[i]? = some (some (.int n)) ∧ p n = some t ∧ St H ∧ ∀ H2, St H2 → Q (.bl t) H2))
    {FU : Nat} {m : Int} (e : firstD p FU = some m) {H : Hp} {Q : VK} (h0 : St H) (hq : ∀ H', St H' → Q (.int m) H') : ∃ t, PSs Z b t ∧ t { nx := fun _ H' => Q .non H', rt := Q } (L2.start firstN [f]) H := by
  unfold chkFirst at hb
  split at hb
  · simp only [Bool.and_eq_true, List.all_cons, List.all_nil, decide_eq_true_eq, and_true] at hb
    obtain ⟨⟨⟨⟨rfl, rfl, rfl, rfl, rfl, rfl, rfl, rfl, rfl, rfl⟩, ⟨rfl, rfl, rfl, rfl, rfl⟩⟩, ⟨rfl, rfl, rfl, rfl⟩⟩, ⟨rfl, rfl⟩⟩ := hb
    have nd : Z.N.Nodup := by rw [hN]; exact firstN_nd
    have n1 : Z.N[1]? = some ("high" : Str) := by rw [hN]; rfl
    have n2 : Z.N[2]? = some ("low" : Str) := by rw [hN]; rfl
    have n3 : Z.N[3]? = some ("middle" : Str) := by rw [hN]; rfl
    have l1 : Z.env.scope.names.lookup ("high" : Str) = some .local := hl _ (by decide)
    have l2 : Z.env.scope.names.lookup ("low" : Str) = some .local := hl _ (by decide)
    have l3 : Z.env.scope.names.lookup ("middle" : Str) = some .local := hl _ (by decide)
    have v1 : ∀ q : Pos, PE Z (.Name "high" q) (tVar 1) := fun q => pe_var n1 (.inl l1)
    have v2 : ∀ q : Pos, PE Z (.Name "low" q) (tVar 2) := fun q => pe_var n2 (.inl l2)
    have v3 : ∀ q : Pos, PE Z (.Name "middle" q) (tVar 3) := fun q => pe_var n3 (.inl l3)
    have own : PassesOwn (model Z.prog Z.w) Z.A Z.env Z.xe := by
      rw [hx]
      exact PassesOwn.never
    unfold firstD at e
    obtain ⟨hi, e1, e2⟩ := obind e
    refine ⟨_, pss_cons (ps_set (i := 1) nd n1 (.inl l1) pe_int (by rfl) (.inr l1)) (pss_cons (ps_while own (pt_not (pt_val (hact 1 "high" _ _ _ rfl))) (pss_one (ps_set (i := 1) nd n1 (.inl l1) (pe_op op_mulW pe_int (v1 _)) (by rfl) (.inr l1))))
      (pss_cons (ps_set (i := 2) nd n2 (.inl l2) (pe_op op_fdivW (v1 _) pe_int) (by rfl) (.inr l2)) (pss_cons (ps_while own (pt_cmpR op_gt (pe_op op_sub (v1 _) (v2 _)) pe_int (by rfl))
        (pss_cons (ps_set (i := 3) nd n3 (.inl l3) (pe_op op_fdivW (pe_op op_add (v2 _) (v1 _)) pe_int) (by rfl) (.inr l3))
          (pss_one (ps_asg (pe_ifExp (pt_val (hact 3 "middle" _ _ _ rfl)) (pe_tup (pa_cons (v2 _) (pa_cons (v3 _) pa_nil))) (pe_tup (pa_cons (v3 _) (pa_cons (v1 _) pa_nil)))) (pg_tup hc (pgs_cons (pg_name (i := 2) nd n2 (.inl l2) (.inr l2)) (pgs_cons (pg_name (i := 1) nd n1 (.inl l1) (.inr l1)) pgs_nil)))))))
        (pss_one (ps_ret (v1 _)))))), ?_⟩
    refine ⟨fun k σ H => St H ∧ ∃ h, σ = [some f, some (.int h), none, none] ∧ upD p k h = some hi, ⟨FU, h0, 1, rfl, e1⟩, ?_⟩
    rintro k σ H ⟨hS, h, rfl, hu⟩
    cases k with
    | zero => cases hu
    | succ k =>
      obtain ⟨t, hp, hu⟩ := obind hu
      refine ⟨rfl, h, t, rfl, hp, hS, fun H2 hS2 => ⟨t, rfl, ?_⟩⟩
      cases t with
      | false =>
        obtain ⟨hz, hu⟩ := oite (by simpa using hu)
        refine ⟨_, fun σ' H' q => q, ⟨_, rfl, _, _, rfl, rfl, hz, ?_⟩⟩
        exact ⟨k, Nat.lt_succ_self k, hS2, 2 * h, rfl, hu⟩
      | true =>
        cases hu
        refine ⟨_, rfl, _, _, rfl, rfl, ⟨by decide, by decide⟩, ?_⟩
        refine ⟨fun k σ H => St H ∧ ∃ h l x, σ = [some f, some (.int h), some (.int l), x] ∧ downD p k l h = some m, ⟨FU, hS2, hi, hi / 2, none, rfl, e2⟩, ?_⟩
        rintro k σ H ⟨hS, h, l, x, rfl, hd⟩
        cases k with
        | zero => cases hd
        | succ k =>
          unfold downD at hd
          refine ⟨_, rfl, _, rfl, _, _, rfl, rfl, _, _, rfl, rfl, _, rfl, ?_⟩
          by_cases hlt : 1 < h - l
          · rw [if_pos hlt] at hd
            obtain ⟨t, hp, hd⟩ := obind hd
            rw [decide_eq_true hlt, if_pos rfl]
            refine ⟨_, fun σ' H' q => q, _, rfl, _, rfl, _, _, rfl, rfl, _, _, rfl, rfl, ⟨by decide, by decide⟩, ?_⟩
            refine ⟨rfl, (l + h) / 2, t, rfl, hp, hS, fun H3 hS3 => ⟨t, rfl, ?_⟩⟩
            cases t with
            | true =>
              rw [if_pos rfl] at hd ⊢
              refine ⟨_, rfl, _, rfl, (show 2 ≤ sizeLine by decide), fun a ha => ⟨a, _, rfl, .inl (.inl upd_same), rfl, _, _, rfl, ?_⟩⟩
              exact ⟨_, _, rfl, rfl, k, Nat.lt_succ_self k, hst _ _ _ hS3 ha, _, _, _, rfl, hd⟩
            | false =>
              rw [if_neg Bool.false_ne_true] at hd ⊢
              refine ⟨_, rfl, _, rfl, (show 2 ≤ sizeLine by decide), fun a ha => ⟨a, _, rfl, .inl (.inl upd_same), rfl, _, _, rfl, ?_⟩⟩
              exact ⟨_, _, rfl, rfl, k, Nat.lt_succ_self k, hst _ _ _ hS3 ha, _, _, _, rfl, hd⟩
          · rw [if_neg hlt] at hd
            cases hd
            rw [decide_eq_false hlt, if_neg Bool.false_ne_true]
            exact ⟨_, rfl, hq _ hS⟩
  · cases hb
end PF

set_option maxHeartbeats 4000000
/-! PL3: a def that ends with the making of a lambda and the call of the def that looks. -/
namespace PF
open PySem PySem.Spec PyProof.Rows L2
/-- the end's text, behind the lines ahead of it -/
def chkFE (C : Cfg) (S : Sc) (x : Ft) : IB → List Stmt → Bool
  | .cons s r, z :: zs => chkS C S s z && chkFE C S x r zs
  | .nil, [z] => match z with
    | .Return (some (.Call (.Name y _) [.Lambda ⟨[], [⟨t, _, _⟩], none, [], [], none, []⟩ body scope _] [] _)) _ =>
      decide (C.fns[x.g]? = some y) && glS S y && okN y && decide (C.N[x.t]? = some t) && lamS1B t S.sc scope && chkE C ⟨scope, fun _ => false⟩ x.e [body] none
    | _ => false
  | _, _ => false
def chkDF (fns : List Str) (cons : List (Str × PyData)) (f : Fn) (x : Ft) (st : Stmt) : Bool :=
  scopeOk f.N f.ps (defScope st) && chkFE ⟨f.N, fns, cons⟩ ⟨defScope st, fun _ => true⟩ x x.pre (defBody st)
/-- the def that looks -/
def chkLook (st : Stmt) : Bool := chkFirst (defBody st) && scopeOk firstN ["tells"] (defScope st) && firstN.all fun x => decide ((defScope st).names.lookup x = some .local)
theorem XPost.trans {K : PySem.W.Frag} {H F H1 F1 H2 F2 : Hp} (a : XPost K H F H1 F1) (b : XPost K H1 F1 H2 F2) : XPost K H F H2 F2 := by
  refine ⟨a.mono.trans b.mono, b.sub, fun c o h t => b.keep c o (a.keep c o h t) t, fun c h => b.live c (a.live c h), a.tabs.trans b.tabs, fun c h => ?_⟩
  rcases b.fresh c h with z | z
  · exact a.fresh c z
  · refine .inr ?_
    cases e : H c with
    | none => rfl
    | some o => exact absurd z (a.live c (by rw [e]; simp))
theorem XPost.new {K : PySem.W.Frag} {H F H1 F1 : Hp} (a : XPost K H F H1 F1) {p : Addr} {o : HO} (h : H1 p = none) (nl : NL o := by first | exact NL.lst | exact NL.tup | exact NL.dK | exact NL.fdK | (intro _ _ z; cases z) | (intro _ _ z; unfold LamX.CodeO at z; cases z)) : XPost K H F (upd H1 p o) F1 := by
  have hf : F1 p = none := a.sub.free h
  refine ⟨a.mono, fun b u e => by rw [upd_ne (ne_of_none e hf)]; exact a.sub b u e, fun b u e t => ?_, fun b e => ?_, a.tabs.trans (Tm.upd (Da.no h) nl), a.fresh⟩
  · have := a.keep b u e t
    rw [upd_ne (ne_of_none this h)]
    exact this
  · by_cases hb : b = p
    · rw [hb, upd_same]
      simp
    · rw [upd_ne hb]
      exact a.live b e
theorem allV_at : ∀ {env : En}, allV env = true → ∀ {i : Nat} {s : Sl}, env.at i = some s → ∃ d, s = .v d
  | [], _, i, s, e => by
    unfold En.at at e
    simp at e
  | none :: r, h, 0, s, e => by
    unfold En.at at e
    simp at e
  | some (.v d) :: r, h, 0, s, e => by
    unfold En.at at e
    simp at e
    exact ⟨d, e.symm⟩
  | some (.o _) :: r, h, _, s, e => by cases h
  | some (.b _) :: r, h, _, s, e => by cases h
  | some (.w _) :: r, h, _, s, e => by cases h
  | none :: r, h, i + 1, s, e => allV_at (env := r) h (i := i) (by
    unfold En.at at e ⊢
    simpa using e)
  | some (.v d) :: r, h, i + 1, s, e => allV_at (env := r) h (i := i) (by
    unfold En.at at e ⊢
    simpa using e)
theorem allV_own {env : En} (h : allV env = true) {σ : L2.St} {p : Addr} : ¬ Own σ env p := fun ⟨i, s, c, e, m, _⟩ => by
  obtain ⟨d, rfl⟩ := allV_at h e
  cases m
theorem code_ne_tbl {c : Addr} {q : Str} : NT (LamX.CodeO c q) := fun ps z => LamX.codeO_ne ps z
/-- the making of a lambda: nothing but the table and a code object is new -/
theorem lam_made {X : Cx} {pins : List (Addr × Obj)} {σ : L2.St} {H : Hp} {s : Shared} {c P : Addr} {params : Arguments} {body : Expr} {scope : Scope} {pos : Pos} {Er : Value → Shared → Prop} {Q : Value → Shared → Prop} (I : L2.Inv X pins σ H s)
    (B : LamX.TabB X.base X.mg c P) (hc : X.env.code = .ref c) (ht : LamX.TabS H P (X.env.qual ++ "<lambda>")) (h0 : defaultsOf params X.env = ([], [])) (hfree : ∀ y ∈ scope.names, y.2 = .free → ∃ c, X.env.cells.lookup y.1 = some c)
    (h : ∀ (f d : Addr) (pm ctv : Value) (H1 : Hp) (s1 : Shared), L2.Inv X pins σ H1 s1 → (∀ b, b ≠ P → H b ≠ none → H1 b = H b) → (∀ b, b ≠ P → H b = none → H1 b = none ∨ b = d) → LamX.TabS H1 P (X.env.qual ++ "<lambda>") → (∀ u, H P = some u → ∃ w, H1 P = some w) →
      s1.heap.get? f = some (PySem.W.kla_obj "<lambda>" (X.env.qual ++ "<lambda>") params body scope (cloFrom X.env.cells scope.names []) pm d ctv) → H1 f = none → f ∉ frs X.stack → H1 d = some (LamX.CodeO d (X.env.qual ++ "<lambda>")) → Q (.ref f) s1) :
    wpAny (model X.prog X.w) X.A (eval (.Lambda params body scope pos) X.env) Q Er s := by
  obtain ⟨ps, eP, trip, all⟩ := ht
  have code := B.code.keeps I.bk
  have blt := B.bm.keeps I.bk
  have glob := I.mod.glob.keeps I.bk
  have hP : s.heap.get? P = some { cls := .none, data := .fields ps } := I.hok P _ eP
  have noframe : ∀ a, s.heap.objs.size ≤ a → a ∉ frs X.stack := fun a ha z => (List.mem_cons.mp (I.stkSub _ z)).elim (fun e => by
    have h1 := I.lt
    rw [← e] at h1
    exact absurd ha (Nat.not_le.mpr h1)) (fun e => I.nofs ha e)
  apply PySem.W.kla_eval h0
  cases am : codeAmong pos ps.toList with
  | some cv =>
    obtain ⟨d, rfl, hd⟩ := all pos cv am
    apply PySem.W.kla_makeFunctionHit (mg := X.mg) (c := c) (P := P) (ps := ps) (closure_ok hfree) I.ok.glob glob hc code hP trip am blt
    intro ctv h' tk keep sz
    refine h h'.objs.size d _ ctv H _ (I.kept fun b o e => Heap.get?_push_of_some _ (keep b o e)) (fun _ _ _ => rfl) (fun b _ e => .inl e) ⟨ps, eP, trip, all⟩ (fun u e => ⟨u, e⟩) (Heap.get?_push_size _ rfl) (I.hok.fresh sz) (noframe _ sz) hd
  | none =>
    apply PySem.W.kla_makeFunction (mg := X.mg) (c := c) (P := P) (ps := ps) (closure_ok hfree) I.ok.glob glob hc code hP trip am B.gP blt
    rintro d ctv h' tk keep ge lt ⟨d2, od, vs, tq, ed, hod, hdd, hv⟩ tab
    cases ed
    have sz : s.heap.objs.size ≤ h'.objs.size := Nat.le_trans ge (Nat.le_of_lt lt)
    have nd : H d = none := I.hok.fresh ge
    have nPd : P ≠ d := fun e => by
      rw [e, nd] at eP
      cases eP
    have J := LamX.inv_table (t' := tk) (q := X.env.qual ++ "<lambda>") (more := #[rawInt pos.line, rawInt pos.col, .ref d]) (h' := h'.push (PySem.W.kla_obj "<lambda>" (X.env.qual ++ "<lambda>") params body scope (cloFrom X.env.cells scope.names []) ((X.mg "__name__").getD .none) d ctv)) I eP
      (fun b o hb e => Heap.get?_push_of_some _ (keep b o hb e)) (Heap.get?_push_of_some _ tab) ge ⟨od, vs, tq, Heap.get?_push_of_some _ hod, hdd, hv⟩
    have at2 : ∀ b, b ≠ P → b ≠ d → L2.upd (L2.upd H P (.tbl (ps ++ #[rawInt pos.line, rawInt pos.col, .ref d]))) d (LamX.CodeO d (X.env.qual ++ "<lambda>")) b = H b := fun b h1 h2 => (upd_ne h2).trans (upd_ne h1)
    have atP : L2.upd (L2.upd H P (.tbl (ps ++ #[rawInt pos.line, rawInt pos.col, .ref d]))) d (LamX.CodeO d (X.env.qual ++ "<lambda>")) P = some (.tbl (ps ++ #[rawInt pos.line, rawInt pos.col, .ref d])) := (upd_ne nPd).trans upd_same
    have listed : (ps ++ #[rawInt pos.line, rawInt pos.col, .ref d]).toList = ps.toList ++ [rawInt pos.line, rawInt pos.col, .ref d] := by simp
    refine h h'.objs.size d _ ctv _ _ J (fun b hb hn => at2 b hb fun e => hn (by rw [e]; exact nd)) (fun b hb e => ?_) ⟨_, atP, by rw [listed]; exact PySem.TriplesOk_snoc _ _ _ _ trip, fun p2 cv hcv => ?_⟩ (fun u _ => ⟨_, atP⟩) (Heap.get?_push_size _ rfl) ?_ (noframe _ sz) upd_same
    · by_cases hbd : b = d
      · exact .inr hbd
      · exact .inl ((at2 b hb hbd).trans e)
    · rw [listed] at hcv
      rcases LamX.among_app _ trip hcv with z | z
      · obtain ⟨d0, e1, e2⟩ := all p2 cv z
        refine ⟨d0, e1, (at2 d0 (fun y => ?_) (fun y => ?_)).trans e2⟩
        · rw [y, eP] at e2
          exact absurd (Option.some.inj e2).symm (LamX.codeO_ne _)
        · rw [y, nd] at e2
          cases e2
      · exact ⟨d, z, upd_same⟩
    · have n1 : h'.objs.size ≠ d := Nat.ne_of_gt lt
      have n2 : h'.objs.size ≠ P := Nat.ne_of_gt (Nat.lt_of_lt_of_le (Heap.lt_size hP) sz)
      rw [at2 _ n2 n1]
      exact I.hok.fresh sz
theorem bind1 {q t : Str} {an : Option Expr} {ap : Pos} {body : Expr} {scope : Scope} {cl : List (Str × Addr)} {pm cv ctv u : Value} :
    bindArgs (PySem.W.kla_fn "<lambda>" q ⟨[], [⟨t, an, ap⟩], none, [], [], none, []⟩ body scope cl pm cv ctv) ⟨[u], []⟩ = pure [(t, u)] := by
  have e : (t == t) = true := beq_self_eq_true t
  simp [bindArgs, PySem.W.kla_fn, seqItems?, List.lookup, e]
  try rfl
section
variable {X : Cx} {C : Cfg} {S : Sc} {Γ : Tab} {n FU : Nat}
/-- what return g(lambda ..) asks -/
def tFT (K : PySem.W.Frag) (Γ : Tab) (cons : List (Str × PyData)) (FU : Nat) (x : Ft) : TE := fun σ H Q => ∃ G F env m, Rel K G σ H F env ∧ allV env = true ∧ firstD (lamP Γ cons x env) FU = some m ∧ ∀ H' F', XPost K H F H' F' → Q (.int m) H'
theorem pe_ft {x : Ft} {y t : Str} {an : Option Expr} {ap p pos lpos : Pos} {body : Expr} {scope : Scope} {g c P : Addr} {st2 : Stmt} {fd2 : FuncData} (hC : COk X C Γ n) (hx : X.xe = fun _ _ => False) (hS : SOk X S) (hr : Room (n + 2) X.A)
    (hg : Gl X y) (hy : okN y = true) (hm : X.mg y = some (.ref g)) (FF : Fun X.K y y st2 g fd2) (hb2 : L2.Binds X.K fd2 ["tells"] []) (hL : chkLook st2 = true) (hN : C.N[x.t]? = some t) (L : LamS1 t S.sc scope)
    (hE : chkE C ⟨scope, fun _ => false⟩ x.e [body] none = true) (TB : LamX.TabB X.base X.mg c P) (hcode : X.env.code = .ref c) (hT : TN X.K P (X.env.qual ++ "<lambda>")) (hu : ∀ q, TN X.K P q → q = X.env.qual ++ "<lambda>") :
    PE X (.Call (.Name y p) [.Lambda ⟨[], [⟨t, an, ap⟩], none, [], [], none, []⟩ body scope lpos] [] pos) (tFT X.K Γ C.cons FU x) := by
  refine ⟨fun pins s σ H Q I h => ?_⟩
  obtain ⟨G, F, env, m, R, hv, e, k⟩ := h
  have L' : LamS1 t X.env.scope scope := by rw [hS.sc]; exact L
  obtain ⟨oc, od, kV, doc, pm, an2, cdv, ct, osl, rfl, lk, hcd⟩ := FF.ex
  refine wpAny_Call_Name_kw (ld_glob I hg hm ?_ (okN_1 hy))
  refine PySem.W.callWith_K (h₀ := X.base) I.ok.mod.kin FF.kp ?_ (by rfl) (by rfl)
  show wpAny _ _ (spliced ((false, eval (.Lambda ⟨[], [⟨t, an, ap⟩], none, [], [], none, []⟩ body scope lpos) X.env) :: backTo pos (starEach [] X.env))) _ _ s
  refine Calls.spliced_cons (lam_made I TB hcode (R.ent.1 _ _ hT) rfl (L'.has I.ok) fun f d pm' ctv H1 s' I1 same new tabP tabE hf hfn hfr hco => ?_)
  refine Calls.spliced_nil ⟨I1.kIn, ?_⟩
  -- the tables and the frozen part behind the making
  have fP : F P = none := R.entF.2 _ _ hT
  have ext : ∀ b o, b ≠ P → H b = some o → H1 b = some o := fun b o hb e => (same b hb (by rw [e]; simp)).trans e
  have isT : ∃ ps, H P = some (.tbl ps) := let ⟨ps, e, _⟩ := R.ent.1 _ _ hT; ⟨ps, e⟩
  have nf : NFS H H1 := fun b o vs e => by
    by_cases hP : b = P
    · subst hP
      obtain ⟨ps, e2, _⟩ := tabP
      rw [e2] at e
      cases e
    · cases hb : H b with
      | some u =>
        rw [← hb, ← same b hP (by rw [hb]; simp)]
        exact e
      | none =>
        rcases new b hP hb with z | z
        · rw [z] at e
          cases e
        · rw [z, hco] at e
          have e := Option.some.inj e
          unfold LamX.CodeO at e
          cases e
  have tm : Tm X.K H H1 := ⟨fun P2 q z t0 => by
    by_cases hP : P2 = P
    · subst hP
      rw [hu q z]
      exact tabP
    · obtain ⟨ps, h1, h2, h3⟩ := t0
      refine ⟨ps, ext _ _ hP h1, h2, fun p2 cv hcv => ?_⟩
      obtain ⟨d0, e1, e2⟩ := h3 p2 cv hcv
      refine ⟨d0, e1, ext _ _ (fun y => ?_) e2⟩
      obtain ⟨ps2, e3⟩ := isT
      rw [y, e3] at e2
      exact absurd (Option.some.inj e2).symm (LamX.codeO_ne _), nf⟩
  have xp : XPost X.K H F H1 F := by
    refine ⟨Same.refl _, fun b o e => ext b o (ne_of_none e fP) (R.sub b o e), fun b o e nt => ext b o (fun y => ?_) e, fun b e => ?_, tm, fun b e => .inl e⟩
    · obtain ⟨ps, e3⟩ := isT
      rw [y, e3] at e
      exact nt ps (Option.some.inj e).symm
    · by_cases hb : b = P
      · obtain ⟨ps, e3⟩ := isT
        obtain ⟨w, e4⟩ := tabE _ e3
        rw [hb, e4]
        simp
      · rw [same b hb e]
        exact e
  unfold chkLook at hL
  obtain ⟨hL1, hL2, hL3⟩ := and3 hL
  have SC := scope_of hL2
  have rc : codeAny (model X.prog X.w) X.A (.call (.ref g) ⟨[.ref f], []⟩) (CR C8.CX0 X.stack X.prog X.w H1 s' Q C8.E0) s' := by
    refine LamX.run_ofS (N := firstN) (ps := ["tells"]) (us := [.ref f]) (vs := [.ref f]) lk hcd SC hr I1.env0 (hb2 s' [.ref f] I1.kIn rfl) (.cons rfl .nil) rfl fun hr' => ?_
    have hact : ∀ (i : Nat) (z : Str) (py p1 p2 : Pos), firstN[i]? = some z → PE (cxOf C8.CX0 X.prog X.w X.K X.mg X.base firstN y (defScope st2) g cdv X.A X.stack s' H1 C8.E0).nox (.Call (.Name "tells" p1) [.Name z py] [] p2)
        (fun σ HZ Q => σ[0]? = some (some (.ref f)) ∧ ∃ n t, σ[i]? = some (some (.int n)) ∧ lamP Γ C.cons x env n = some t ∧ (∃ F', XPost X.K H F HZ F' ∧ HZ d = some (LamX.CodeO d (X.env.qual ++ "<lambda>"))) ∧ ∀ H2, (∃ F', XPost X.K H F H2 F' ∧ H2 d = some (LamX.CodeO d (X.env.qual ++ "<lambda>"))) → Q (.bl t) H2) := fun i z py p1 p2 hi => by
        refine pe_mono (pe_act1 (Ng := firstN) (qg := y) (sg := defScope st2) (g := g) (cdg := cdv) (k := n) (i := x.t) (a := "tells") (tb := rE X.K Γ C.cons x.e) I1 L' hC.nd (by rw [hC.N]; exact hN) hf hfn hfr (fun u => bind1) hr' (fun A outer s2 H2 hr2 hg2 => ?_) (pe_var (i := i) hi (.inl ?_) ((show ∀ z ∈ firstN, (z == ("__debug__" : Str)) = false by decide) z (List.mem_of_getElem? hi)) ((show ∀ z ∈ firstN, (z == ("__classdict__" : Str)) = false by decide) z (List.mem_of_getElem? hi))) rfl rfl (.inl ?_)) fun σ2 H2 Q2 ⟨h1, m2, b, h2, h3, ⟨F2, h4, h6⟩, h5⟩ => ?_
        · have hC' : COk (LamX.lamCx X A outer s2 H2 C8.E0 scope f d).nox C Γ n := ⟨rfl, hC.N, hC.nd, hr2, hg2.trans hC.guards, hC.blt, hC.cons, hC.fns⟩
          have hS' : SOk (LamX.lamCx X A outer s2 H2 C8.E0 scope f d).nox ⟨scope, fun _ => false⟩ := ⟨rfl, fun _ z => by cases z⟩
          exact (sE x.e hC' hS' [body] none hE).1 _ rfl
        · exact of_decide_eq_true (List.all_eq_true.mp hL3 z (List.mem_of_getElem? hi))
        · exact of_decide_eq_true (List.all_eq_true.mp hL3 "tells" (by decide))
        · refine ⟨h1, _, h2, h6, ?_⟩
          unfold lamP at h3
          obtain ⟨env1, e1, h3⟩ := obind h3
          obtain ⟨q, e2, h3⟩ := obind h3
          have R2 := (R.growT h4.mono h4.sub h4.keep h4.live h4.fresh h4.tabs).1
          have R3 := R2.setv e1 (.int m2)
          have noown : ∀ p, ¬ Own (σ.set x.t (some (.int m2))) env1 p := fun p ⟨j, s0, c0, z1, z2, _⟩ => by
            obtain ⟨rfl, _⟩ := put_inv e1
            rw [at_set] at z1
            split at z1
            · cases z1
              cases z2
            · obtain ⟨d0, rfl⟩ := allV_at hv z1
              cases z2
          refine ⟨G, F2, env1, q.1, q.2, R3, e2, fun v H3 F3 R4 E4 q4 => ?_⟩
          split at h3
          · rename_i b' hq
            cases h3
            rw [hq] at q4
            cases q4
            refine h5 H3 ⟨F3, h4.trans ⟨E4.mono, R4.sub, fun c o z nt => E4.keep c o z nt (noown c), E4.live, E4.tabs, fun c z => ?_⟩, E4.keep d _ h6 code_ne_tbl (noown d)⟩
            rcases E4.fresh c z with y | y | y
            · exact .inl y
            · exact .inr y
            · exact absurd y (noown c)
          · cases h3
    obtain ⟨t', ht', hq'⟩ := first_walk (Z := (cxOf C8.CX0 X.prog X.w X.K X.mg X.base firstN y (defScope st2) g cdv X.A X.stack s' H1 C8.E0).nox) rfl rfl rfl (fun z hz => of_decide_eq_true (List.all_eq_true.mp hL3 z hz)) hL1 (f := .ref f)
      (St := fun H' => ∃ F', XPost X.K H F H' F' ∧ H' d = some (LamX.CodeO d (X.env.qual ++ "<lambda>"))) (p := lamP Γ C.cons x env) (fun H' a xs ⟨F', q, q2⟩ ha => ⟨F', q.new ha, by rw [upd_ne (ne_of_none q2 ha)]; exact q2⟩) hact e (H := H1) (Q := Q) ⟨F, xp, hco⟩ (fun H' ⟨F', q, _⟩ => k H' F' q)
    exact ⟨t', ht'.nox, hq'⟩
  refine wpAny_call (codeAny_mono rc fun r s2 hq => ?_)
  cases r with
  | error e => exact (show False from hq).elim
  | ok fl =>
    cases fl with
    | ret u => exact I1.after hq
    | next => exact False.elim hq
    | brk => exact False.elim hq
    | cont => exact False.elim hq
/-- the lines ahead, then the end -/
def tFE (K : PySem.W.Frag) (Γ : Tab) (cons : List (Str × PyData)) (FU : Nat) (x : Ft) : IB → TS
  | .cons s r => tSeq (rS K Γ cons FU s) (tFE K Γ cons FU x r)
  | .nil => fun D σ H => tFT K Γ cons FU x σ H D.rt
theorem tFE_of {K : PySem.W.Frag} {Γ : Tab} {cons : List (Str × PyData)} {FU : Nat} {x : Ft} {G : Gh} {D : Ends} : ∀ (b : IB) {env : En} {fl : Fl} {σ : L2.St} {H F : Hp}, Rel K G σ H F env → runB Γ cons FU b env = some fl →
    (match fl with
      | .nx env1 => ∀ σ' H' F', Same F F' → Rel K G σ' H' F' env1 → tFT K Γ cons FU x σ' H' D.rt
      | .rt r env1 => ∀ v σ' H' F', Same F F' → Rel K G σ' H' F' env1 → RT K G H' F' v r → D.rt v H'
      | _ => False) → tFE K Γ cons FU x b D σ H
  | .nil, env, fl, σ, H, F, R, e, k => by
    cases e
    exact k σ H F (Same.refl _) R
  | .cons s r, env, fl, σ, H, F, R, e, k => by
    obtain ⟨f, e1, e⟩ := obind e
    refine ⟨G, F, env, f, R, e1, ?_⟩
    cases f with
    | nx e2 =>
      intro σ' H' F' m R'
      refine tFE_of r R' e ?_
      cases fl with
      | nx e3 => exact fun σ2 H2 F2 m2 R2 => k σ2 H2 F2 (m.trans m2) R2
      | rt r3 e3 => exact fun v σ2 H2 F2 m2 R2 q => k v σ2 H2 F2 (m.trans m2) R2 q
      | bk e3 => exact k.elim
      | ct e3 => exact k.elim
    | rt r2 e2 =>
      cases e
      exact fun v σ' H' F' m R' q => k v σ' H' F' m R' q
    | bk e2 =>
      cases e
      exact k.elim
    | ct e2 =>
      cases e
      exact k.elim
theorem pss_FE (hC : COk X C Γ n) (hx : X.xe = fun _ _ => False) (hS : SOk X S) (hr : Room (n + 2) X.A) {x : Ft} {g c P : Addr} {y : Str} {st2 : Stmt} {fd2 : FuncData} (hgy : C.fns[x.g]? = some y) (hm : X.mg y = some (.ref g)) (FF : Fun X.K y y st2 g fd2) (hb2 : L2.Binds X.K fd2 ["tells"] []) (hL : chkLook st2 = true)
    (TB : LamX.TabB X.base X.mg c P) (hcode : X.env.code = .ref c) (hT : TN X.K P (X.env.qual ++ "<lambda>")) (hu : ∀ q, TN X.K P q → q = X.env.qual ++ "<lambda>") : ∀ (b : IB) (zs : List Stmt), chkFE C S x b zs = true → PSs X zs (tFE X.K Γ C.cons FU x b)
  | .cons s r, [], h => by cases h
  | .cons s r, z :: zs, h => by
    have h : (chkS C S s z && chkFE C S x r zs) = true := h
    obtain ⟨h1, h2⟩ := and2 h
    exact pss_cons (sS hC hS hx s z h1) (pss_FE hC hx hS hr hgy hm FF hb2 hL TB hcode hT hu r zs h2)
  | .nil, [], h => by cases h
  | .nil, [z], h => by
    unfold chkFE at h
    split at h
    · rename_i y2 p1 t an ap body scope lpos p2 p3
      simp only [Bool.and_eq_true, decide_eq_true_eq] at h
      obtain ⟨⟨⟨⟨⟨h1, h2⟩, h3⟩, h4⟩, h5⟩, h6⟩ := h
      obtain rfl : y = y2 := Option.some.inj (hgy.symm.trans h1)
      exact pss_one (ps_ret (pe_ft hC hx hS hr (gl_of hS h2) h3 hm FF hb2 hL h4 (lamS1_by h5) h6 TB hcode hT hu))
    · cases h
  | .nil, _ :: _ :: _, h => by cases h
end
/-- THE DEF WITH A LAMBDA -/
theorem fn_FT {P : Program} {w : World} {K : PySem.W.Frag} {mg : Str → Option Value} {base : Heap} {fns : List Str} {cons : List (Str × PyData)} {f : Fn} {x : Ft} {st st2 : Stmt} {a g c Pt : Addr} {y : Str} {fd fd2 : FuncData} {Γ : Tab} {n FU : Nat}
    (FF : Fun K f.name f.name st a fd) (hc : chkDF fns cons f x st = true) (hblt : ∀ x ∈ blts, mg x = none) (hcons : ∀ x d, cons.lookup x = some d → ∃ u v, mg x = some u ∧ RelV v u ∧ ∀ F, Dq K F v d)
    (hfns : ∀ g x, fns[g]? = some x → ∃ b, mg x = some (.ref b) ∧ FnP P w K mg base n b (Γ g)) (hgy : fns[x.g]? = some y) (hm : mg y = some (.ref g)) (F2 : Fun K y y st2 g fd2) (hb2 : L2.Binds K fd2 ["tells"] []) (hL : chkLook st2 = true)
    (KX : K.In base) (GX : base.Ns mainGlobals mg) (ha : mg f.name = some (.ref a)) (hT : PySem.W.tabIn K f.name = some (c, Pt)) (TB : LamX.TabB base mg c Pt) (hin : f.name ∈ lamNames) (hu : ∀ q, TN K Pt q → q = f.name ++ ".<locals>." ++ "<lambda>") :
    FnG P w K mg base (n + 3) a fd f.ps (runFT Γ cons FU f x) := by
  unfold chkDF at hc
  obtain ⟨hc1, hc2⟩ := and2 hc
  have SC := scope_of hc1
  obtain ⟨oc, od, kV, doc, pm, an, cdv, ct, osl, rfl, lk, hcd⟩ := FF.ex
  have hcdv : cdv = .ref c := PySem.W.law_code KX GX hT ha (KX _ _ lk) rfl
  have hlen : ∀ as r, runFT Γ cons FU f x as = some r → as.length = f.ps.length := fun as r e => by
    unfold runFT at e
    exact (oite e).1.1
  refine ⟨hlen, fun A outer s H args us vs Q hr hg e0 hb rv hsp => ?_⟩
  obtain ⟨F, as, r, l, sm, en, pa, uni, eg, post⟩ := hsp
  have hl : vs.length = f.ps.length := by rw [paired_len pa, hlen as _ eg]
  have KX : K.In s.heap := e0.mod.kin.keeps fun b o e => (e0.bs b o e).1
  have lim : s.heap.NoLimit := e0.mod.nolimit.keeps fun b o e => (e0.bs b o e).1
  have hkind : ∀ y ∈ f.ps.zip us, (defScope st).names.lookup y.1 = some .local ∨ ((defScope st).names.lookup y.1 = some .cell ∧ ((cellsFrom (s.heap.objs.size + 1) (defScope st).names []).lookup y.1).isSome = true) := fun ⟨m, v⟩ hy => by
    rcases SC.par m (List.of_mem_zip hy).1 with q | q
    · exact .inl q
    · exact .inr ⟨q, PySem.W.cellsFrom_some _ _ _ (.inl q)⟩
  refine codeAny_call_function hr.depth (KX _ _ lk) rfl SC.co SC.gen rfl (PySem.W.codeRec_of KX hcd) (hb _ _ _ _ ?_)
  refine wpAny_newFunctionEnv_cells SC.kind hkind fun env he s1 x1 => ?_
  subst he
  refine ⟨lim.keeps x1.toInCall.keep, codeAny_func ?_⟩
  have I : L2.Inv (cxOf CX0 P w K mg base f.N f.name (defScope st) a cdv A outer s H E0) [] (L2.start f.N vs) H s1 := inv_start SC hr.hd e0 hl rv x1
  have hC : COk (cxOf CX0 P w K mg base f.N f.name (defScope st) a cdv A outer s H E0).nox ⟨f.N, fns, cons⟩ Γ n :=
    ⟨rfl, rfl, SC.nd, (hr.deeper _).mono (by omega), hg, hblt, hcons, hfns⟩
  have hS : SOk (cxOf CX0 P w K mg base f.N f.name (defScope st) a cdv A outer s H E0).nox ⟨defScope st, fun _ => true⟩ := ⟨rfl, fun _ _ => rfl⟩
  unfold runFT at eg
  obtain ⟨⟨hal, pl⟩, eg⟩ := oite eg
  obtain ⟨fl, ef, eg⟩ := obind eg
  have body := (pss_FE (FU := FU) (X := (cxOf CX0 P w K mg base f.N f.name (defScope st) a cdv A outer s H E0).nox) hC rfl hS (hr.deeper _) hgy hm F2 hb2 hL TB hcdv ⟨f.name, c, hin, hT, rfl⟩ hu x.pre (defBody st) hc2).nox
  have hσ : ∀ (i : Nat) (v : V), vs[i]? = some v → (L2.start f.N vs)[i]? = some (some v) := fun i v e => by
    have hi : i < vs.length := (List.getElem?_eq_some_iff.mp e).1
    unfold L2.start
    rw [List.getElem?_append_left (by rw [List.length_map]; exact hi), List.getElem?_map, e]
    rfl
  have hps : f.ps.length ≤ f.N.length := by
    have := congrArg List.length SC.pre
    rw [List.length_take] at this
    omega
  have nom : ∀ (i : Nat) (t : Sl) (c : Ob), (startE f.N.length as).at i = some t → t.m = some c → False := fun i t c e hm => by
    rw [start_at (vs := vs)] at e
    obtain ⟨v, ev, q⟩ := paired_get' pa e
    cases t with
    | v d => cases hm
    | o ds => exact q.elim
    | w ds => exact q.elim
    | b ds => exact plainAs_no pl e
  have R : Rel K ⟨H, F, fun _ _ => False⟩ (L2.start f.N vs) H F (startE f.N.length as) := by
    refine ⟨?_, sm, Same.refl _, fun b o e _ _ => e, fun b e => e, fun b e => .inl e, fun i d e => ?_, fun i t ds e hm => (nom i t ds e hm).elim, fun i j p ne z1 z2 _ _ => ?_, Tm.refl _, en.start⟩
    · unfold startE L2.start
      rw [List.length_append, List.length_map, List.length_replicate, List.length_append, List.length_map, List.length_replicate, paired_len pa]
    · rw [start_at (vs := vs)] at e
      obtain ⟨v, ev, q⟩ := paired_get' pa e
      exact ⟨v, hσ i v ev, q⟩
    · obtain ⟨t1, d1, e1, m1⟩ := z1
      exact nom i t1 d1 e1 m1
  have nol : ∀ {b : Addr}, ¬ LentAt vs as b := fun {b} ⟨i, ds, z, _⟩ => plainAs_no pl z
  have fin : ∀ (v : V) (d : PyData) (σ1 : L2.St) (env1 : En) (H1 F1 H' F' : Hp), r = .v d → Rel K ⟨H, F, fun _ _ => False⟩ σ1 H1 F1 env1 → XPost K H1 F1 H' F' → Dq K F' v d → Q v H' := fun v d σ1 env1 H1 F1 H' F' er R1 xp q => by
    subst er
    refine post v H' F' ⟨R1.base.trans xp.mono, xp.sub, fun c o e nt _ => xp.keep c o (R1.fro c o e nt fun i z => z) nt, fun c e => xp.live c (R1.live c e), fun c e => ?_, q, fun q z => absurd z nol, R1.tabs.trans xp.tabs⟩
    rcases xp.fresh c e with z | z
    · exact R1.new c z
    · refine .inr ?_
      cases ho : H c with
      | none => rfl
      | some o => exact absurd z (R1.live c (by
        show H c ≠ none
        rw [ho]
        simp))
  refine wpAny_mono (body.run [] s1 (L2.start f.N vs) H { nx := fun _ H' => Q .non H', rt := Q } I (tFE_of x.pre R ef ?_)) (fun fl s' hs => ?_) fun e s' hs => hs
  · cases fl with
    | nx env1 =>
      intro σ1 H1 F1 m R1
      obtain ⟨hv, eg⟩ := oite eg
      obtain ⟨k, e1, eg⟩ := obind eg
      cases eg
      exact ⟨_, F1, env1, k, R1, hv, e1, fun H' F' xp => fin _ _ σ1 env1 H1 F1 H' F' rfl R1 xp (.int _)⟩
    | rt r1 env1 =>
      intro v σ1 H1 F1 m R1 q
      cases r1 with
      | v d =>
        cases eg
        exact fin v d σ1 env1 H1 F1 H1 F1 rfl R1 ⟨Same.refl _, R1.sub, fun _ _ e _ => e, fun _ e => e, Tm.refl _, fun _ e => .inl e⟩ q
      | o ds => cases eg
      | b ds => cases eg
      | w ds => cases eg
    | bk e2 => cases eg
    | ct e2 => cases eg
  · have back : ∀ {σ' : L2.St} {H' : Hp} {v : V} {u : Value}, L2.Inv (cxOf CX0 P w K mg base f.N f.name (defScope st) a cdv A outer s H E0) [] σ' H' s' → RelV v u → Q v H' → CE outer P w H s Q u s' :=
      fun {σ' H' v u} J rv q => ⟨v, H', J.os, J.bare, J.base, J.hok, rv, q⟩
    cases fl with
    | ret u =>
      obtain ⟨v, σ', H', J, rv, q⟩ := hs
      exact back J rv q
    | next =>
      obtain ⟨σ', H', J, q⟩ := hs
      exact back (v := V.non) (u := Value.none) J rfl q
    | brk =>
      obtain ⟨_, _, _, q⟩ := hs
      exact False.elim q
    | cont =>
      obtain ⟨_, _, _, q⟩ := hs
      exact False.elim q
end PF

/-! PF14: the whole program by its defs; the law's call. -/
namespace PF
open PySem PySem.Spec PyProof.Rows L2
/-- the check of a def: with a try, or without; where it raises -/
def chkA (fns : List Str) (cons : List (Str × PyData)) (f : Fn) (st : Stmt) : Bool :=
  match f.tr with
  | some t => (match t.more with
    | none => chkTD fns cons f t st && (match t.suite, t.ret with
      | .k (.bool _), .bool _ => true
      | .alk _ _ _, .bool _ => true
      | _, _ => false)
    | some x => chkTD2 fns cons f t x st)
  | none => (match f.ft with
    | some x => chkDF fns cons f x st
    | none => (match f.hand with
      | true => chkLook st && decide (f.ps = [("tells" : Str)]) && (match f.body with
        | .cons .nev .nil => true
        | _ => false)
      | false => chkD fns cons f st))
def chkR (fns : List Str) (cons : List (Str × PyData)) (f : Fn) (st : Stmt) : Bool :=
  (!f.alk || chkAlk f st) && match f.rx with
  | some x => chkDX fns cons f x st && (match f.tr with
    | none => true
    | some _ => false)
  | none => true
/-- the classes that a def names -/
def clsOf (f : Fn) : List Xc := (match f.rx with
  | some x => [x.cls]
  | none => []) ++ (match f.tr with
  | some t => [t.cls]
  | none => [])
/-- a def as it stands behind the top -/
structure DefAt (K : PySem.W.Frag) (mg : Str → Option Value) (fns : List Str) (cons : List (Str × PyData)) (f : Fn) : Prop where
  ex : ∃ a fd st, mg f.name = some (.ref a) ∧ Fun K f.name f.name st a fd ∧ L2.Binds K fd f.ps [] ∧ chkA fns cons f st = true ∧ chkR fns cons f st = true
  cls : ∀ c ∈ clsOf f, ∃ C, XcOk K mg c C
  tab : ∀ x, f.ft = some x → ∃ c P, PySem.W.tabIn K f.name = some (c, P)
theorem clsOf_none {K : PySem.W.Frag} {mg : Str → Option Value} {f : Fn} (h : clsOf f = []) : ∀ c ∈ clsOf f, ∃ C, XcOk K mg c C := fun c hc => by
  rw [h] at hc
  cases hc
theorem clsOf_one {K : PySem.W.Frag} {mg : Str → Option Value} {f : Fn} {x : Xc} {C : Addr} (h : clsOf f = [x]) (T : XcOk K mg x C) : ∀ c ∈ clsOf f, ∃ C, XcOk K mg c C := fun c hc => by
  rw [h] at hc
  rcases List.mem_cons.mp hc with e | e
  · rw [e]
    exact ⟨C, T⟩
  · cases e
theorem exm_me {K : PySem.W.Frag} {S : Addr} (h1 : PySem.W.subIn K (.ref S) (.type "BaseException") = some true) (h2 : PySem.W.isClsIn K S = true) (h3 : PySem.W.typeIn K (.ref S) = some (.type "type")) (h4 : PySem.W.subIn K (.ref S) (.ref S) = some true) :
    PySem.W.exmOne K (.ref S) (.ref S) = some true := by
  have e1 : (PySem.W.subIn K (.ref S) (.type "BaseException") == some true) = true := by rw [h1] <;> rfl
  have e2 : (PySem.W.clsIn K S).isSome = true := h2
  have e3 : (PySem.W.typeIn K (.ref S) == some (.type "type")) = true := by rw [h3] <;> rfl
  show (if (PySem.W.subIn K (.ref S) (.type "BaseException") == some true) = true then (if ((PySem.W.clsIn K S).isSome && PySem.W.typeIn K (.ref S) == some (.type "type")) = true then PySem.W.subIn K (.ref S) (.ref S) else none) else none) = some true
  rw [if_pos e1, if_pos (by rw [e2, e3]; rfl), h4]
/-- an own error class from the written part -/
theorem xc_mk {K : PySem.W.Frag} {h : Heap} {mg : Str → Option Value} {c : Xc} {st : Stmt} {qual : Str} {C T I N : Addr} {nm qn : Str} {bs bm : List Value} {sn : List Str} {sub : List Value} {ab : Bool} {col : Option Bool} {dd : Option Addr} {ma mb mc md me : Option Value} {iv ik ic im iw it io : Value} {ia ie : Option Addr} {is : Array (Option Value)} (X : K.In h) (G : h.Ns mainGlobals mg)
    (xC : PySem.W.nsIn K mainGlobals c.name = some (some (.ref C))) (xT : PySem.W.nsIn K mainGlobals c.base = some (some (.ref T)))
    (xL : K.lookup C = some (excClassObj nm qn C N bs bm true sn sub ab col dd ma mb mc md me "ValueError.__new__")) (xB : PySem.HandSPX.refsVE bm = true)
    (xs : PySem.W.findIn K (.ref C) "__setattr__" = some (some (.builtin "object.__setattr__"))) (xg : PySem.W.findIn K (.ref C) "__getattribute__" = some (some (.builtin "BaseException.__getattribute__")))
    (xh : PySem.W.findIn K (.ref C) "__getattr__" = some none) (xn : PySem.W.findIn K (.ref C) c.fld = some none) (xi : PySem.W.findIn K (.ref C) "__init__" = some (some (.ref I)))
    (xt : PySem.W.typeIn K (.ref I) = some (.type "function")) (xl : K.lookup I = some ⟨io, ia, .func (PySem.W.fnOf "__init__" qual (defArgs st) (defBody st) (defScope st) iv ik ic im ie iw it), is⟩) (xc : PySem.W.codeIn K iw qual = true)
    (xk : PySem.W.keepIn K (.ref C) = true) (xe : PySem.W.subIn K (.ref C) (.type "BaseException") = some true) (xy : PySem.W.typeIn K (.ref C) = some (.type "type")) (xd : PySem.W.hasDictIn K C = true) (xz : PySem.W.isClsIn K C = true) (xS : PySem.W.subIn K (.ref C) (.ref C) = some true)
    (xK : PySem.W.keepIn K (.ref T) = true) (xY : PySem.W.typeIn K (.ref T) = some (.type "type")) (xR : PySem.W.readsIn K T (.type "type") = true) (xG : PySem.W.specialIn K (.ref T) "__getattribute__" = some (some (.builtin "type.__getattribute__")))
    (xV : PySem.W.findCls K (.ref T) (.type "type") "__init__" = some (.val (.builtin "ValueError.__init__"))) (hch : chkInit c st = true) (hb : L2.Binds K (PySem.W.fnOf "__init__" qual (defArgs st) (defBody st) (defScope st) iv ik ic im ie iw it) [("self" : Str), c.fld] [])
    (hdb : (c.name == ("__debug__" : Str)) = false)
    (xA : PySem.W.findIn K (.ref C) "__class__" = some (some (.builtin "object.__class__"))) (xQ : PySem.W.specialIn K (.builtin "object.__class__") "__get__" = some (some (.builtin "getset_descriptor.__get__"))) (xE : PySem.W.takesIn K (.builtin "object.__class__") = some true)
    (xM : PySem.W.mroIn K C (.type "object") = some true) (xO : PySem.W.subIn K (.ref C) (.type "ValueError") = some true) (xv : PySem.W.nsIn K mainGlobals "ValueError" = some none) : XcOk K mg c C :=
  ⟨PySem.W.mg_of X G xC, hdb, ⟨⟨_, _, _, _, _, _, _, _, _, _, _, _, _, _, _, xL, xB⟩, xs, xe, xy, xk⟩, xn, exm_me xe xz xy xS, ⟨xg, xh, xe, xd⟩, ⟨xz, xg, xh, xe, xA, xQ, xE, xM, xO⟩, PySem.W.mg_none_of X G xv, ⟨T, PySem.W.mg_of X G xT, xK, xY, xR, xG, xV⟩,
    ⟨I, st, qual, iv, ik, ic, im, iw, it, io, ie, ia, is, xi, xt, xl, xc, hch, hb⟩⟩
theorem runP_tr {cons : List (Str × PyData)} {FU : Nat} {fs : List Fn} {n g : Nat} {f : Fn} {t : Tf} (e : fs[g]? = some f) (h : f.tr = some t) : runP cons FU fs (n + 1) g = runTD (runP cons FU fs n) (runX cons FU fs n) cons FU f t := by
  funext as
  show (fs[g]?).bind (fun fn => match fn.tr with
      | none => (match fn.ft with
        | none => if fn.thaw = true then thwD as (runFn (runPX cons FU fs n).1 cons FU fn as) else runFn (runPX cons FU fs n).1 cons FU fn as
        | some x => runFT (runPX cons FU fs n).1 cons FU fn x as)
      | some t => runTD (runPX cons FU fs n).1 (runPX cons FU fs n).2 cons FU fn t as) = _
  rw [e]
  simp only [Option.bind_some, h]
  rfl
theorem runP_no {cons : List (Str × PyData)} {FU : Nat} {fs : List Fn} {n g : Nat} {f : Fn} (e : fs[g]? = some f) (h : f.tr = none) (h2 : f.ft = none) (h3 : f.thaw = false) : runP cons FU fs (n + 1) g = runFn (runP cons FU fs n) cons FU f := by
  funext as
  show (fs[g]?).bind (fun fn => match fn.tr with
      | none => (match fn.ft with
        | none => if fn.thaw = true then thwD as (runFn (runPX cons FU fs n).1 cons FU fn as) else runFn (runPX cons FU fs n).1 cons FU fn as
        | some x => runFT (runPX cons FU fs n).1 cons FU fn x as)
      | some t => runTD (runPX cons FU fs n).1 (runPX cons FU fs n).2 cons FU fn t as) = _
  rw [e]
  simp only [Option.bind_some, h, h2, h3, Bool.false_eq_true, if_false]
  rfl
theorem runP_th {cons : List (Str × PyData)} {FU : Nat} {fs : List Fn} {n g : Nat} {f : Fn} (e : fs[g]? = some f) (h : f.tr = none) (h2 : f.ft = none) (h3 : f.thaw = true) : runP cons FU fs (n + 1) g = fun as => thwD as (runFn (runP cons FU fs n) cons FU f as) := by
  funext as
  show (fs[g]?).bind (fun fn => match fn.tr with
      | none => (match fn.ft with
        | none => if fn.thaw = true then thwD as (runFn (runPX cons FU fs n).1 cons FU fn as) else runFn (runPX cons FU fs n).1 cons FU fn as
        | some x => runFT (runPX cons FU fs n).1 cons FU fn x as)
      | some t => runTD (runPX cons FU fs n).1 (runPX cons FU fs n).2 cons FU fn t as) = _
  rw [e]
  simp only [Option.bind_some, h, h2, h3, if_true]
  rfl
theorem runP_ft {cons : List (Str × PyData)} {FU : Nat} {fs : List Fn} {n g : Nat} {f : Fn} {x : Ft} (e : fs[g]? = some f) (h : f.tr = none) (h2 : f.ft = some x) : runP cons FU fs (n + 1) g = runFT (runP cons FU fs n) cons FU f x := by
  funext as
  show (fs[g]?).bind (fun fn => match fn.tr with
      | none => (match fn.ft with
        | none => if fn.thaw = true then thwD as (runFn (runPX cons FU fs n).1 cons FU fn as) else runFn (runPX cons FU fs n).1 cons FU fn as
        | some x => runFT (runPX cons FU fs n).1 cons FU fn x as)
      | some t => runTD (runPX cons FU fs n).1 (runPX cons FU fs n).2 cons FU fn t as) = _
  rw [e]
  simp only [Option.bind_some, h, h2]
  rfl
theorem runX_lo {cons : List (Str × PyData)} {FU : Nat} {fs : List Fn} {n g : Nat} (h : n < 2) : runX cons FU fs (n + 1) g = fun _ => none := by
  funext as
  show (if n < 2 then none else (fs[g]?).bind fun fn => runXD (runPX cons FU fs n).1 cons FU fn as) = none
  rw [if_pos h]
theorem runX_hi {cons : List (Str × PyData)} {FU : Nat} {fs : List Fn} {n g : Nat} {f : Fn} (h : ¬ n < 2) (e : fs[g]? = some f) : runX cons FU fs (n + 1) g = runXD (runP cons FU fs n) cons FU f := by
  funext as
  show (if n < 2 then none else (fs[g]?).bind fun fn => runXD (runPX cons FU fs n).1 cons FU fn as) = _
  rw [if_neg h, e]
  rfl
/-- what the suites call is alike -/
def alksB (fs : List Fn) : Bool := fs.all fun f => match f.tr with
  | some t => (match t.suite with
    | .alk _ g _ => (match fs[g]? with
      | some h => h.alk
      | none => false)
    | .ga _ _ _ g _ => (match fs[g]? with
      | some h => h.alk
      | none => false)
    | _ => true)
  | none => true
theorem alks_of {fs : List Fn} (h : alksB fs = true) {f : Fn} {t : Tf} {i g : Nat} {e : IE} (hf : f ∈ fs) (ht : f.tr = some t) (hs : t.suite = .alk i g e) : ∃ k, fs[g]? = some k ∧ k.alk = true := by
  have := List.all_eq_true.mp h f hf
  rw [ht] at this
  simp only [hs] at this
  split at this
  · exact ⟨_, by assumption, this⟩
  · cases this
theorem alks_of2 {fs : List Fn} (h : alksB fs = true) {f : Fn} {t : Tf} {i j g : Nat} {m : Int} {e : IE} (hf : f ∈ fs) (ht : f.tr = some t) (hs : t.suite = .ga j m i g e) : ∃ k, fs[g]? = some k ∧ k.alk = true := by
  have := List.all_eq_true.mp h f hf
  rw [ht] at this
  simp only [hs] at this
  split at this
  · exact ⟨_, by assumption, this⟩
  · cases this
theorem runXD_no {Γ : Tab} {cons : List (Str × PyData)} {FU : Nat} {f : Fn} (h : f.rx = none) : runXD Γ cons FU f = fun _ => none := by
  funext as
  unfold runXD
  rw [h]
theorem FnG.mono {P : Program} {w : World} {K : PySem.W.Frag} {mg : Str → Option Value} {base : Heap} {n m : Nat} {a : Addr} {fd : FuncData} {ps : List Str} {g : DefG} (h : FnG P w K mg base n a fd ps g) (l : n ≤ m) : FnG P w K mg base m a fd ps g :=
  ⟨h.len, fun A outer s H args us vs Q hr => h.run A outer s H args us vs Q (hr.mono l)⟩
theorem FnP.mono {P : Program} {w : World} {K : PySem.W.Frag} {mg : Str → Option Value} {base : Heap} {n m : Nat} {a : Addr} {g : DefG} (h : FnP P w K mg base n a g) (l : n ≤ m) : FnP P w K mg base m a g :=
  ⟨h.kp, let ⟨fd, ps, b, G⟩ := h.ex; ⟨fd, ps, b, G.mono l⟩⟩
theorem FnX.mono {P : Program} {w : World} {K : PySem.W.Frag} {mg : Str → Option Value} {base : Heap} {n m : Nat} {a : Addr} {fd : FuncData} {ps : List Str} {g : DefG} {gx : List Sl → Option (Xc × PyData)} (h : FnX P w K mg base n a fd ps g gx) (l : n ≤ m) : FnX P w K mg base m a fd ps g gx :=
  ⟨h.len, h.len2, fun A outer s H args us vs Q E hr => h.run A outer s H args us vs Q E (hr.mono l)⟩
/-- what a def with a lambda calls is the def that looks -/
def ftsB (fs : List Fn) : Bool := fs.all fun f => match f.ft with
  | some x => (match fs[x.g]? with
    | some h => h.hand && (match h.tr, h.ft with
      | none, none => true
      | _, _ => false)
    | none => false) && lamNames.contains f.name
  | none => true
theorem fts_of {fs : List Fn} (h : ftsB fs = true) {f : Fn} {x : Ft} (hf : f ∈ fs) (hx : f.ft = some x) : (∃ k, fs[x.g]? = some k ∧ k.hand = true ∧ k.tr = none ∧ k.ft = none) ∧ f.name ∈ lamNames := by
  have := List.all_eq_true.mp h f hf
  rw [hx] at this
  simp only at this
  obtain ⟨h1, h2⟩ := and2 this
  refine ⟨?_, by simpa using h2⟩
  split at h1
  · rename_i k hk
    obtain ⟨h3, h4⟩ := and2 h1
    split at h4
    · exact ⟨k, hk, h3, by assumption, by assumption⟩
    · cases h4
  · cases h1
/-- what is known of the tables of code objects -/
structure TabK (K : PySem.W.Frag) (mg : Str → Option Value) (base : Heap) : Prop where
  kin : K.In base
  ns : base.Ns mainGlobals mg
  tb : ∀ x ∈ lamNames, ∀ c P, PySem.W.tabIn K x = some (c, P) → LamX.TabB base mg c P
  un : ∀ x ∈ lamNames, ∀ y ∈ lamNames, ∀ c d P, PySem.W.tabIn K x = some (c, P) → PySem.W.tabIn K y = some (d, P) → x = y
  nol : NoL K
theorem thaw_pick {P : Program} {w : World} {K : PySem.W.Frag} {mg : Str → Option Value} {base : Heap} {m n g : Nat} {a : Addr} {fd : FuncData} {ps : List Str} {cons : List (Str × PyData)} {FU : Nat} {fs : List Fn} {f : Fn} (hK : NoL K) (ht : f.tr = none) (hf : f.ft = none) (e : fs[g]? = some f)
    (h : FnG P w K mg base m a fd ps (runFn (runP cons FU fs n) cons FU f)) : FnG P w K mg base m a fd ps (runP cons FU fs (n + 1) g) := by
  cases hw : f.thaw with
  | false =>
    rw [runP_no e ht hf hw]
    exact h
  | true =>
    rw [runP_th e ht hf hw]
    exact h.thaw hK
theorem prog_okX {P : Program} {w : World} {K : PySem.W.Frag} {mg : Str → Option Value} {base : Heap} {fs : List Fn} {fns : List Str} {cons : List (Str × PyData)} {FU : Nat} (hn : fns = fs.map (·.name))
    (hd : ∀ f ∈ fs, DefAt K mg fns cons f) (hblt : ∀ x ∈ blts, mg x = none) (hcons : ∀ x d, cons.lookup x = some d → ∃ u v, mg x = some u ∧ RelV v u ∧ ∀ F, Dq K F v d) (hA : alksB fs = true) (hT : TabK K mg base) (hF : ftsB fs = true) :
    ∀ (n g : Nat) (x : Str), fns[g]? = some x → ∃ a, mg x = some (.ref a) ∧ FnP P w K mg base (3 * n) a (runP cons FU fs n g) ∧ FnXP P w K mg base (3 * n) a (runP cons FU fs n g) (runX cons FU fs n g) := by
  intro n
  induction n with
  | zero =>
    intro g x hx
    rw [hn, List.getElem?_map] at hx
    cases e : fs[g]? with
    | none =>
      rw [e] at hx
      cases hx
    | some f =>
      rw [e] at hx
      cases hx
      obtain ⟨a, fd, st, h1, h2, h3, h4, h5⟩ := (hd f (List.mem_of_getElem? e)).ex
      have G : FnG P w K mg base 0 a fd f.ps (runP cons FU fs 0 g) := ⟨(fun as r z => by cases z), fun A outer s H args us vs Q hr hg e0 hb rv hsp => by
        obtain ⟨_, _, _, _, _, _, _, _, z, _⟩ := hsp
        cases z⟩
      exact ⟨a, h1, ⟨h2.kp, fd, f.ps, h3, G⟩, ⟨h2.kp, fd, f.ps, h3, fnX_of_G G⟩⟩
  | succ n ih =>
    intro g x hx
    have ihG : ∀ (g : Nat) (x : Str), fns[g]? = some x → ∃ a, mg x = some (.ref a) ∧ FnP P w K mg base (3 * n) a (runP cons FU fs n g) := fun g x h => let ⟨a, q1, q2, _⟩ := ih g x h; ⟨a, q1, q2⟩
    have ihX : ∀ (g : Nat) (x : Str), fns[g]? = some x → ∃ a, mg x = some (.ref a) ∧ FnXP P w K mg base (3 * n) a (runP cons FU fs n g) (runX cons FU fs n g) := fun g x h => let ⟨a, q1, _, q2⟩ := ih g x h; ⟨a, q1, q2⟩
    rw [hn, List.getElem?_map] at hx
    cases e : fs[g]? with
    | none =>
      rw [e] at hx
      cases hx
    | some f =>
      rw [e] at hx
      cases hx
      obtain ⟨a, fd, st, h1, h2, h3, h4, h5⟩ := (hd f (List.mem_of_getElem? e)).ex
      have hcl := (hd f (List.mem_of_getElem? e)).cls
      have G : FnG P w K mg base (3 * n + 3) a fd f.ps (runP cons FU fs (n + 1) g) := by
        cases ht : f.tr with
        | none =>
          unfold chkA at h4
          rw [ht] at h4
          simp only at h4
          cases hft : f.ft with
          | none =>
            rw [hft] at h4
            simp only at h4
            refine thaw_pick hT.nol ht hft e ?_
            split at h4
            · obtain ⟨h4, h6⟩ := and2 h4
              obtain ⟨_, h7⟩ := and2 h4
              split at h6
              · rename_i hbody
                have none : ∀ as r, runFn (runP cons FU fs n) cons FU f as = some r → False := fun as r z => by
                  unfold runFn at z
                  obtain ⟨_, z⟩ := oite z
                  rw [hbody] at z
                  cases z
                exact ⟨fun as r z => (none as r z).elim, fun A outer s H args us vs Q hr hg e0 hb rv hsp => by
                  obtain ⟨_, _, _, _, _, _, _, _, z, _⟩ := hsp
                  exact (none _ _ z).elim⟩
              · cases h6
            · exact (fn_G (P := P) (w := w) (base := base) (FU := FU) h2 h4 hblt hcons ihG).mono (by omega)
          | some x =>
            rw [hft] at h4
            simp only at h4
            rw [runP_ft e ht hft]
            obtain ⟨⟨k, hk, hk1, hk2, hk3⟩, hin⟩ := fts_of hF (List.mem_of_getElem? e) hft
            obtain ⟨a2, fd2, st2, j1, j2, j3, j4, _⟩ := (hd k (List.mem_of_getElem? hk)).ex
            unfold chkA at j4
            rw [hk2] at j4
            simp only at j4
            rw [hk3] at j4
            simp only at j4
            rw [hk1] at j4
            simp only at j4
            obtain ⟨j4, _⟩ := and2 j4
            obtain ⟨j4, j5⟩ := and2 j4
            rw [of_decide_eq_true j5] at j3
            obtain ⟨c, Pt, hTn⟩ := (hd f (List.mem_of_getElem? e)).tab x hft
            exact fn_FT (P := P) (w := w) (base := base) (FU := FU) h2 h4 hblt hcons ihG (by rw [hn, List.getElem?_map, hk]; rfl) j1 j2 j3 j4 hT.kin hT.ns h1 hTn (hT.tb _ hin _ _ hTn) hin fun q ⟨y, d, hy, hty, hq⟩ => by
              rw [hq, hT.un _ hy _ hin _ _ _ hty hTn]
        | some t =>
          unfold chkA at h4
          rw [ht] at h4
          simp only at h4
          rw [runP_tr e ht]
          obtain ⟨CA, T⟩ := hcl t.cls (by
            unfold clsOf
            rw [ht]
            simp)
          have alkP : ∀ (g' : Nat) (k : Fn), fs[g']? = some k → k.alk = true → ∀ x, fns[g']? = some x → ∃ a fd ps, mg x = some (.ref a) ∧ PySem.W.keepIn K (.ref a) = true ∧ L2.Binds K fd ps [] ∧ L2H.FnH P w K mg base CX0 1 a fd ps spAlk := fun g' k hk hka x hx => by
            rw [hn, List.getElem?_map, hk] at hx
            cases hx
            obtain ⟨a2, fd2, st2, j1, j2, j3, _, j5⟩ := (hd k (List.mem_of_getElem? hk)).ex
            have j6 : chkAlk k st2 = true := by
              unfold chkR at j5
              obtain ⟨j5, _⟩ := and2 j5
              rw [hka] at j5
              exact j5
            exact ⟨a2, fd2, k.ps, j1, j2.kp, j3, fn_alk j2 j6 (hblt _ (by decide))⟩
          cases n with
          | zero =>
            have e0 : runTD (runP cons FU fs 0) (runX cons FU fs 0) cons FU f t = fun _ => none := funext fun as => runTD_none
            rw [e0]
            exact ⟨(fun as r z => by cases z), fun A outer s H args us vs Q hr hg e0 hb rv hsp => by
              obtain ⟨_, _, _, _, _, _, _, _, z, _⟩ := hsp
              cases z⟩
          | succ n =>
            cases hmo : t.more with
            | some x =>
              rw [hmo] at h4
              simp only at h4
              obtain ⟨j, m, i, g', e', hsu⟩ := chkTD2_suite h4
              obtain ⟨k, hk, hka⟩ := alks_of2 hA (List.mem_of_getElem? e) ht hsu
              exact FnG.mono (n := 3 * (n + 1) + 1) (fn_T2 hmo hsu h2 h4 hblt hcons ihG ihX T (by omega) (alkP g' k hk hka)) (by omega)
            | none =>
              rw [hmo] at h4
              simp only at h4
              obtain ⟨h4, h6⟩ := and2 h4
              refine FnG.mono (n := 3 * (n + 1) + 1) (fn_T hmo h2 h4 hblt hcons ihG ihX T ?_) (by omega)
              split at h6
              · exact .inl ⟨_, _, by assumption, by assumption⟩
              · rename_i i' g' e' b' hsu hre
                obtain ⟨k, hk, hka⟩ := alks_of hA (List.mem_of_getElem? e) ht hsu
                exact .inr ⟨_, _, _, _, hsu, hre, by omega, alkP g' k hk hka⟩
              · cases h6
      refine ⟨a, h1, ⟨h2.kp, fd, f.ps, h3, G⟩, ⟨h2.kp, fd, f.ps, h3, ?_⟩⟩
      by_cases hl : n < 2
      · rw [runX_lo hl]
        exact fnX_of_G G
      · rw [runX_hi hl e]
        cases hr : f.rx with
        | none =>
          rw [runXD_no hr]
          exact fnX_of_G G
        | some x =>
          unfold chkR at h5
          rw [hr] at h5
          obtain ⟨_, h5⟩ := and2 h5
          obtain ⟨h5, _⟩ := and2 h5
          obtain ⟨CA, T⟩ := hcl x.cls (by
            unfold clsOf
            rw [hr]
            simp)
          exact fn_X (n := 3 * n) h2 hr h5 hblt hcons (fun g x h => let ⟨a, q1, q2⟩ := ihG g x h; ⟨a, q1, q2.mono (by omega)⟩) T G
theorem prog_ok {P : Program} {w : World} {K : PySem.W.Frag} {mg : Str → Option Value} {base : Heap} {fs : List Fn} {fns : List Str} {cons : List (Str × PyData)} {FU : Nat} (hn : fns = fs.map (·.name))
    (hd : ∀ f ∈ fs, DefAt K mg fns cons f) (hblt : ∀ x ∈ blts, mg x = none) (hcons : ∀ x d, cons.lookup x = some d → ∃ u v, mg x = some u ∧ RelV v u ∧ ∀ F, Dq K F v d) (hT : TabK K mg base) (n g : Nat) (x : Str) (h : fns[g]? = some x) (hA : alksB fs = true := by rfl) (hF : ftsB fs = true := by rfl) :
    ∃ a, mg x = some (.ref a) ∧ FnP P w K mg base (3 * n) a (runP cons FU fs n g) := let ⟨a, q1, q2, _⟩ := prog_okX hn hd hblt hcons hA hT hF n g x h; ⟨a, q1, q2⟩
/-- what the written part says of the tables: none of them is written -/
structure TabW (K : PySem.W.Frag) : Prop where
  out : ∀ x ∈ lamNames, ∀ c P, PySem.W.tabIn K x = some (c, P) → K.lookup P = none
  un : ∀ x ∈ lamNames, ∀ y ∈ lamNames, ∀ c d P, PySem.W.tabIn K x = some (c, P) → PySem.W.tabIn K y = some (d, P) → x = y
  nol : NoL K
theorem tabIn_mk {K : PySem.W.Frag} {x : Str} {f c P : Addr} {oc ca : Value} {od cb : Option Addr} {fd : FuncData} {osl cc : Array (Option Value)} {vs : Array Value} (a : PySem.W.nsIn K mainGlobals x = some (some (.ref f))) (l : K.lookup f = some ⟨oc, od, .func fd, osl⟩) (hc : fd.code = .ref c)
    (m : K.lookup c = some ⟨ca, cb, .fields vs, cc⟩) (n : (vs[11]? : Option Value) = some (.ref P)) : PySem.W.tabIn K x = some (c, P) := by
  unfold PySem.W.tabIn
  simp only [a, l, hc, m, n]
/-- no def here makes a lambda -/
theorem tabIn_no {K : PySem.W.Frag} {x : Str} (h : PySem.W.nsIn K mainGlobals x = some none) : PySem.W.tabIn K x = none := by
  unfold PySem.W.tabIn
  rw [h]
theorem tabW_of {K : PySem.W.Frag} {x y : Str} {ox oy : Option (Addr × Addr)} (hl : lamNames = [x, y]) (hx : PySem.W.tabIn K x = ox) (hy : PySem.W.tabIn K y = oy) (h1 : ∀ p, ox = some p → K.lookup p.2 = none) (h2 : ∀ p, oy = some p → K.lookup p.2 = none) (ne : ∀ p q, ox = some p → oy = some q → p.2 ≠ q.2) (kl : noLB K = true) : TabW K := by
  have two : ∀ z ∈ lamNames, z = x ∨ z = y := fun z hz => by
    rw [hl] at hz
    simpa using hz
  refine ⟨fun z hz c P e => ?_, fun z hz w hw c d P e1 e2 => ?_, noL_of kl⟩
  · rcases two z hz with rfl | rfl
    · exact h1 (c, P) (hx.symm.trans e)
    · exact h2 (c, P) (hy.symm.trans e)
  · rcases two z hz with rfl | rfl <;> rcases two w hw with rfl | rfl
    · rfl
    · exact absurd rfl (ne (c, P) (d, P) (hx.symm.trans e1) (hy.symm.trans e2))
    · exact absurd rfl (ne (d, P) (c, P) (hx.symm.trans e2) (hy.symm.trans e1))
    · rfl
/-! ### the law's call -/
theorem dq_ints {K : PySem.W.Frag} {F : Hp} : ∀ ns : List Int, DqAll K F (ns.map V.int) (ns.map PyData.int)
  | [] => .nil
  | i :: r => .cons (.int i) (dq_ints r)
theorem law_callG {P : Program} {w : World} {K : PySem.W.Frag} {mg mb : Str → Option Value} {n : Nat} {fa a : Addr} {fd : FuncData} {x : Str} {g : DefG} {s1 : Shared} {vs : List Value} {ns : List Int} {l : List PyData}
    (KX : K.In s1.heap) (hns : s1.heap.Ns mainGlobals mg) (hb : s1.heap.Ns builtinsNs mb) (hbb : ∀ x : Str, x ≠ "__name__" → mb x = bootBuiltins x) (hlim : s1.heap.NoLimit) (hg : s1.gens = #[])
    (hbm : ∃ (bm : Addr) (ob : Obj), mg "__builtins__" = some (.ref bm) ∧ bm ≠ builtinsNs ∧ s1.heap.get? bm = some ob ∧ ob.cls = .type "module" ∧ ob.dict = some builtinsNs ∧ ob.data = .plain)
    (hT : ∀ x ∈ lamNames, ∀ c P, PySem.W.tabIn K x = some (c, P) → PySem.W.CodeHd s1.heap c P ∧ s1.heap.get? P = some (PySem.W.tabObj #[])) (TW : TabW K)
    (ha : s1.heap.get? a = some { cls := .type "list", data := .seq vs.toArray }) (hi : IntsAre vs ns) (hl : ns.length ≤ sizeLine) (hr : Room n callerA) (F : ∀ base : Heap, TabK K mg base → FnG P w K mg base n fa fd [x] g)
    (hbind : ∀ (s : Shared) (u : Value), BindsTo s fd ⟨[u], []⟩ [(x, u)]) (eg : g [.v (.list (ns.map .int))] = some (.v (.bool true), l)) :
    codeAny (model P w) callerA (.call (.ref fa) ⟨[.ref a], []⟩) (fun r s' => r = .ok (.ret (.bool true)) ∧ OldK s1.heap s'.heap ∧ s'.os = s1.os ∧ AllBare s'.gens) s1 := by
  have rv := vals_ints hi
  have hz : (ns.map V.int).length ≤ sizeLine := by
    rw [List.length_map]
    exact hl
  have tabAt : ∀ {b : Addr}, (∃ q, TN K b q) → (∃ c, PySem.W.CodeHd s1.heap c b) ∧ s1.heap.get? b = some (PySem.W.tabObj #[]) ∧ K.lookup b = none := fun {b} ⟨q, y, c, hy, e, _⟩ =>
    ⟨⟨c, (hT y hy c b e).1⟩, (hT y hy c b e).2, TW.out y hy c b e⟩
  have aT : ¬ ∃ q, TN K a q := fun z => by
    have e := (tabAt z).2.1
    rw [ha] at e
    have z' : Data.seq vs.toArray _ = Data.fields #[] := congrArg Obj.data (Option.some.inj e)
    cases z'
  -- Hs: the script's part of the abstract heap
  have core : ∀ Hs : Hp, RdL K Hs a (ns.map V.int) → (∀ b u, Hs b = some u → b = a ∧ u = .frz { cls := .type "list", data := .seq vs.toArray } (.lst (ns.map V.int))) → (Hs a ≠ none → K.lookup a = none) →
      codeAny (model P w) callerA (.call (.ref fa) ⟨[.ref a], []⟩) (fun r s' => r = .ok (.ret (.bool true)) ∧ OldK s1.heap s'.heap ∧ s'.os = s1.os ∧ AllBare s'.gens) s1 := by
    intro Hs hS hA hK
    obtain ⟨H, hH1, hH2⟩ : ∃ H : Hp, (∀ b, (∃ q, TN K b q) → H b = some (.tbl #[])) ∧ ∀ b, (¬ ∃ q, TN K b q) → H b = Hs b := by
      classical
      exact ⟨fun b => if ∃ q, TN K b q then some (.tbl #[]) else Hs b, fun b h => if_pos h, fun b h => if_neg h⟩
    have tracked : ∀ {b : Addr} {u : HO}, H b = some u → (∃ q, TN K b q) ∨ (b = a ∧ Hs b = some u) := fun {b u} e => by
      by_cases hb : ∃ q, TN K b q
      · exact .inl hb
      · rw [hH2 b hb] at e
        exact .inr ⟨(hA b u e).1, e⟩
    have free : ∀ {b : Addr} {o : Obj}, s1.heap.get? b = some o → (∀ vs n, o.data ≠ .seq vs n) → o.data ≠ .fields #[] → H b = none := fun {b o} e h1 h2 => by
      cases q : H b with
      | none => rfl
      | some u =>
        rcases tracked q with z | ⟨rfl, _⟩
        · rw [(tabAt z).2.1] at e
          cases e
          exact (h2 rfl).elim
        · rw [ha] at e
          cases e
          exact (h1 _ _ rfl).elim
    have dicts : ∀ {b : Addr} {o : Obj} {es : Array DictEntry} {ep : Nat}, s1.heap.get? b = some o → o.data = .dict es ep → H b = none := fun {b o es ep} e d =>
      free e (fun vs n z => by rw [d] at z; cases z) (fun z => by rw [d] at z; cases z)
    have nsK : ∀ {b : Addr} {m : Str → Option Value}, s1.heap.Ns b m → (hidT s1.heap H).Ns b m := fun {b m} ⟨o, es, ep, e, d, r⟩ => ⟨o, es, ep, hidT_get e (dicts e d), d, r⟩
    have kin : K.In (hidT s1.heap H) := fun b o e => hidT_get (KX b o e) (by
      cases q : H b with
      | none => rfl
      | some u =>
        rcases tracked q with z | ⟨rfl, z⟩
        · rw [(tabAt z).2.2] at e
          cases e
        · rw [hK (by rw [z]; simp)] at e
          cases e)
    have hM : Mod K mg (hidT s1.heap H) := ⟨kin, nsK hns, ⟨mb, nsK hb, hbb⟩, let ⟨mc, h1, h2⟩ := hlim; ⟨mc, nsK h1, h2⟩⟩
    have hok : HOk P w H s1.heap := fun b u e => by
      rcases tracked e with z | ⟨rfl, z⟩
      · rw [hH1 b z] at e
        cases e
        exact (tabAt z).2.1
      · obtain ⟨_, rfl⟩ := hA _ _ z
        exact ⟨ha, hz, vs, _, rv, ha⟩
    have TB : ∀ y ∈ lamNames, ∀ c Pt, PySem.W.tabIn K y = some (c, Pt) → LamX.TabB (hidT s1.heap H) mg c Pt := fun y hy c Pt e => by
      obtain ⟨C, hTp⟩ := hT y hy c Pt e
      refine ⟨?_, ?_, fun z => ?_⟩
      · obtain ⟨o, us, file, tf, flags, tg, inF, text, tt, e1, r1, r2, r3, r⟩ := C
        refine ⟨o, us, file, tf, flags, tg, inF, text, tt, hidT_get e1 (free e1 (fun vs n z => ?_) fun z => ?_), r1, r2, r3, r⟩
        · rw [r2] at z
          cases z
        · rw [r2] at z
          cases z
          simp at r3
      · obtain ⟨bm, ob, b1, b2, b3, b4, b5, b6⟩ := hbm
        refine ⟨bm, ob, b1, b2, fun q => ?_, fun q => ?_, hidT_get b3 (free b3 (fun vs n z => ?_) fun z => ?_), b4, b5, b6⟩
        · obtain ⟨o, es, ep, e, hd, _⟩ := hns
          rw [q, e] at b3
          cases b3
          rw [hd] at b6
          cases b6
        · rw [q, hTp] at b3
          cases b3
          cases b6
        · rw [b6] at z
          cases z
        · rw [b6] at z
          cases z
      · obtain ⟨o, es, ep, e, hd, _⟩ := hns
        rw [z, hTp] at e
        cases e
        cases hd
    have TK : TabK K mg (hidT s1.heap H) := ⟨kin, nsK hns, TB, TW.un, TW.nol⟩
    have none_in : ∀ b, b ∉ frs ([] : List Env) := fun b z => by
      have z' : b ∈ ([] : List Addr) := z
      simp at z'
    have e0 : Env0 P w K mg (hidT s1.heap H) callerA [] s1 H := ⟨rfl, hM, fun b o e => of_hidT e, Nat.le_of_eq (hidT_size _ _), trivial, fun b hb => absurd hb (none_in b), hok, .of_eq hg⟩
    have sub : Same Hs H := fun b u e => by
      obtain ⟨rfl, _⟩ := hA b u e
      rw [hH2 _ aT]
      exact e
    have sp : spF K g [.ref a] H (fun v _ => v = .bl true) := by
      refine ⟨Hs, [.v (.list (ns.map .int))], .v (.bool true), l, sub, ⟨fun Pt q z => LamX.TabS.nil (hH1 Pt ⟨q, z⟩), fun Pt q z => ?_⟩, .cons (.lst hS (dq_ints ns)) .nil, fun i j d e z _ => ?_, eg, fun v H' F' post => ?_⟩
      · cases e : Hs Pt with
        | none => rfl
        | some u =>
          obtain ⟨rfl, _⟩ := hA _ _ e
          exact absurd ⟨q, z⟩ aT
      · cases i with
        | zero => cases z
        | succ i => simp at z
      · have q := post.res
        cases q
        rfl
    refine codeAny_mono ((F _ TK).run callerA [] s1 H ⟨[.ref a], []⟩ [.ref a] [.ref a] _ hr rfl e0 (hbind s1 (.ref a)) (.cons rfl .nil) sp) fun r s' h => ?_
    cases r with
    | error e => exact h.elim
    | ok fl =>
      cases fl with
      | next => exact h.elim
      | brk => exact h.elim
      | cont => exact h.elim
      | ret u =>
        obtain ⟨v, H', os, bare, un, hok', r', q⟩ := h
        have q' : v = .bl true := q
        subst q'
        obtain rfl : u = Value.bool true := r'
        have key : ∀ b o, (¬ ∃ q, TN K b q) → s1.heap.get? b = some o → s'.heap.get? b = some o := fun b o nb e => by
          cases q : H b with
          | none => exact un.keep b o e q (none_in b) (by simp)
          | some u =>
            rcases tracked q with z | ⟨rfl, z⟩
            · exact absurd z nb
            · obtain ⟨_, rfl⟩ := hA _ _ z
              obtain ⟨e1, _⟩ := hok b _ q
              obtain ⟨e2, _⟩ := hok' b _ (un.frzs b _ _ q)
              rw [e] at e1
              cases e1
              exact e2
        have grown : ∀ b, (∃ q, TN K b q) → ∃ more : Array Value, s'.heap.get? b = some { cls := .none, data := .fields more } := fun b hb => by
          obtain ⟨more, z⟩ := un.tbls b #[] (hH1 b hb)
          exact ⟨_, hok' b _ z⟩
        refine ⟨rfl, ⟨fun b o e => ?_, fun b o e => ?_⟩, os, bare⟩
        · by_cases hb : ∃ q, TN K b q
          · obtain ⟨more, hm⟩ := grown b hb
            obtain ⟨⟨c, C⟩, hTp, _⟩ := tabAt hb
            rw [hTp] at e
            cases e
            exact .inr (.inl ⟨(C.tab hTp).isCodeTable, rfl, #[], more, rfl, by rw [Array.empty_append]; exact hm⟩)
          · exact .inl (key b o hb e)
        · by_cases hb : ∃ q, TN K b q
          · obtain ⟨more, hm⟩ := grown b hb
            exact ⟨_, hm⟩
          · exact ⟨o, key b o hb e⟩
  cases hk : K.lookup a with
  | some o =>
    have e := KX a o hk
    rw [ha] at e
    cases e
    exact core (fun _ => none) (.inr ⟨vs, _, hk, rv, hz⟩) (fun b u z => by cases z) (fun z => absurd rfl z)
  | none =>
    refine core (upd (fun _ => none) a (.frz { cls := .type "list", data := .seq vs.toArray } (.lst (ns.map V.int)))) (.inl (.inr ⟨_, upd_same⟩)) (fun b u z => ?_) (fun _ => hk)
    by_cases hb2 : b = a
    · subst hb2
      rw [upd_same] at z
      cases z
      exact ⟨rfl, rfl⟩
    · rw [upd_ne hb2] at z
      cases z
/-- what k_head leaves, from the defs and the law's run -/
theorem walk_P {l : PySem.W.OpenLaw} {m n : Nat} {q : Program} {loose : List Str} {XP : (Str → Option Value) → Heap → Prop} {YP : World → Heap → Prop} {d : DefRec} {K : Params → PySem.W.Frag} {x : Str} {g : DefG} (md : List Str) (hq : ∀ y ∈ md, ∃ e, (recsOf q).find? (fun e => e.name == y) = some e)
    (hn : l.most = some m) (hm : m ≤ sizeLine) (hdf : d.params.defaults = []) (hr : Room n callerA) (hY : ∀ (w : World) (h : Heap), YP w h → (K w.params).In h)
    (F : ∀ (w : World) (mg : Str → Option Value) (fa : Addr) (h : Heap), (K w.params).In h → h.Ns mainGlobals mg → mg d.name = some (.ref fa) →
      ∃ fd : FuncData, (∀ (s : Shared) (u : Value), BindsTo s fd ⟨[u], []⟩ [(x, u)]) ∧ TabW (K w.params) ∧ (∀ y ∈ lamNames, y ∉ md → PySem.W.tabIn (K w.params) y = none) ∧ ∀ base : Heap, TabK (K w.params) mg base → FnG l.prog w (K w.params) mg base n fa fd [x] g)
    (eg : ∀ ns : List Int, ns.length ≤ m → ∃ ds, g [.v (.list (ns.map .int))] = some (.v (.bool true), ds)) :
    PySem.W.WalkO q loose XP YP l.row.toRowW d [] (fun f vs => PySem.call f vs) := by
  refine Att.attach_call hn hdf fun w s0 s1 mg mb fa o pm cd doc a vs ns G Y ho hd hcd hmg hobj hints hlen hg => ?_
  have KX := hY w _ Y
  obtain ⟨fd, hb, TW, hno, hF⟩ := F w mg fa _ KX G.T.g hmg
  obtain ⟨ds, e⟩ := eg ns hlen
  refine law_callG KX G.T.g G.T.b G.T.builtins G.T.nolimit hg G.T.bmain (fun y hy c Pt ht => ?_) TW hobj hints (Nat.le_trans hlen hm) hr hF hb e
  by_cases hm : y ∈ md
  · obtain ⟨e, z⟩ := hq y hm
    exact PySem.W.tab_of G.T KX z ht
  · rw [hno y hy hm] at ht
    cases ht
end PF

/-! PF15: evaluation by simp. -/
namespace PF
open PySem L2
section
variable {Γ : Tab} {C : List (Str × PyData)} {FU : Nat} {env : En}
@[simp] theorem at_zero (s : Option Sl) (r : En) : En.at (s :: r) 0 = s := rfl
@[simp] theorem at_succ (s : Option Sl) (r : En) (i : Nat) : En.at (s :: r) (i + 1) = En.at r i := rfl
@[simp] theorem get_d (z : PyData) : Hd.get env (.d z) = some z := rfl
@[simp] theorem get_s (i : Nat) : Hd.get env (.s i) = (env.at i).bind Sl.lk := rfl
@[simp] theorem lk_v (z : PyData) : Sl.lk (.v z) = some z := rfl
@[simp] theorem lk_o (z : List PyData) : Sl.lk (.o z) = some (.list z) := rfl
@[simp] theorem lk_b (z : List PyData) : Sl.lk (.b z) = some (.list z) := rfl
@[simp] theorem lk_w (z : List (PyData × PyData)) : Sl.lk (.w z) = some (.dict z) := rfl
@[simp] theorem d_w (z : List (PyData × PyData)) : Sl.d (.w z) = .dict z := rfl
@[simp] theorem d_v (z : PyData) : Sl.d (.v z) = z := rfl
@[simp] theorem d_o (z : List PyData) : Sl.d (.o z) = .list z := rfl
@[simp] theorem d_b (z : List PyData) : Sl.d (.b z) = .list z := rfl
@[simp] theorem hd_x (i : Nat) (r : RE) : hd (.x i) r env = if (env.at i).isSome then some (.s i, env) else none := rfl
@[simp] theorem hd_k (d : PyData) (r : RE) : hd (.k d) r env = r.bind fun p => some (.d p.1.d, p.2) := rfl
@[simp] theorem hd_g (d : Str) (r : RE) : hd (.g d) r env = r.bind fun p => some (.d p.1.d, p.2) := rfl
@[simp] theorem hd_bin (o) (a b : IE) (r : RE) : hd (.bin o a b) r env = r.bind fun p => some (.d p.1.d, p.2) := rfl
@[simp] theorem hd_neg (a : IE) (r : RE) : hd (.neg a) r env = r.bind fun p => some (.d p.1.d, p.2) := rfl
@[simp] theorem hd_not (a : IE) (r : RE) : hd (.not a) r env = r.bind fun p => some (.d p.1.d, p.2) := rfl
@[simp] theorem hd_and (a b : IE) (r : RE) : hd (.and a b) r env = r.bind fun p => some (.d p.1.d, p.2) := rfl
@[simp] theorem hd_or (a b : IE) (r : RE) : hd (.or a b) r env = r.bind fun p => some (.d p.1.d, p.2) := rfl
@[simp] theorem hd_cmp (o) (a b : IE) (r : RE) : hd (.cmp o a b) r env = r.bind fun p => some (.d p.1.d, p.2) := rfl
@[simp] theorem hd_ch (o o') (a b c : IE) (r : RE) : hd (.ch o o' a b c) r env = r.bind fun p => some (.d p.1.d, p.2) := rfl
@[simp] theorem hd_ife (t : IT) (a b : IE) (r : RE) : hd (.ife t a b) r env = r.bind fun p => some (.d p.1.d, p.2) := rfl
@[simp] theorem hd_ix (a b : IE) (r : RE) : hd (.ix a b) r env = r.bind fun p => some (.d p.1.d, p.2) := rfl
@[simp] theorem hd_sl (a : IE) (b c : IO) (r : RE) : hd (.sl a b c) r env = r.bind fun p => some (.d p.1.d, p.2) := rfl
@[simp] theorem hd_rv (a : IE) (r : RE) : hd (.rv a) r env = r.bind fun p => some (.d p.1.d, p.2) := rfl
@[simp] theorem hd_tup (a : IL) (r : RE) : hd (.tup a) r env = r.bind fun p => some (.d p.1.d, p.2) := rfl
@[simp] theorem hd_lst (a : IL) (r : RE) : hd (.lst a) r env = r.bind fun p => some (.d p.1.d, p.2) := rfl
@[simp] theorem hd_fn (f) (a : IL) (r : RE) : hd (.fn f a) r env = r.bind fun p => some (.d p.1.d, p.2) := rfl
@[simp] theorem hd_isi (a : IE) (t : String) (r : RE) : hd (.isi a t) r env = r.bind fun p => some (.d p.1.d, p.2) := rfl
@[simp] theorem hd_call (f : Nat) (a : IL) (r : RE) : hd (.call f a) r env = r.bind fun p => some (.d p.1.d, p.2) := rfl
@[simp] theorem hd_lc (o) (g : IG) (i : II) (c : IT) (a : IE) (r : RE) : hd (.lc o g i c a) r env = r.bind fun p => some (.d p.1.d, p.2) := rfl
@[simp] theorem hd_lcl (o) (i : Nat) (g : IG) (c : IT) (a : IE) (r : RE) : hd (.lcl o i g c a) r env = r.bind fun p => some (.d p.1.d, p.2) := rfl
@[simp] theorem hd_lcd (o) (i : Nat) (g : IG) (c : IT) (a : IE) (r : RE) : hd (.lcd o i g c a) r env = r.bind fun p => some (.d p.1.d, p.2) := rfl
@[simp] theorem hd_dcm (o) (g : IG) (i : II) (c : IT) (k a : IE) (r : RE) : hd (.dcm o g i c k a) r env = r.bind fun p => some (.d p.1.d, p.2) := rfl
@[simp] theorem hd_lrg (a : IE) (r : RE) : hd (.lrg a) r env = r.bind fun p => some (.d p.1.d, p.2) := rfl
@[simp] theorem hd_lrg2 (a b : IE) (r : RE) : hd (.lrg2 a b) r env = r.bind fun p => some (.d p.1.d, p.2) := rfl
@[simp] theorem hd_dic (a : IL) (r : RE) : hd (.dic a) r env = r.bind fun p => some (.d p.1.d, p.2) := rfl
@[simp] theorem hd_dget (i : Nat) (a b : IE) (r : RE) : hd (.dget i a b) r env = r.bind fun p => some (.d p.1.d, p.2) := rfl
@[simp] theorem hd_dix (i : Nat) (a : IE) (r : RE) : hd (.dix i a) r env = r.bind fun p => some (.d p.1.d, p.2) := rfl
@[simp] theorem hd_din (m : Bool) (i : Nat) (a : IE) (r : RE) : hd (.din m i a) r env = r.bind fun p => some (.d p.1.d, p.2) := rfl
@[simp] theorem hd_bits (a : IE) (r : RE) : hd (.bits a) r env = r.bind fun p => some (.d p.1.d, p.2) := rfl
@[simp] theorem runE_dic (es : IL) : runE Γ C (.dic es) env = (runV Γ C es env).bind fun p => (getD p.1).bind fun ds => (pairsD ds).bind fun kvs => if kvs.length ≤ 15 then some (.w (mergeD [] kvs), p.2) else none := rfl
@[simp] theorem runE_dget (i : Nat) (k e : IE) : runE Γ C (.dget i k e) env = (dctAt env i).bind fun _ => (hd k (runE Γ C k env) env).bind fun p => (runE Γ C e p.2).bind fun q => (p.1.get q.2).bind fun y => (keyD y).bind fun z => (dctAt q.2 i).bind fun kvs =>
      some (.v ((dlook kvs z).getD q.1.d), q.2) := rfl
@[simp] theorem runE_dix (i : Nat) (k : IE) : runE Γ C (.dix i k) env = (dctAt env i).bind fun _ => (hd k (runE Γ C k env) env).bind fun p => (p.1.get p.2).bind fun y => (keyD y).bind fun z => (dctAt p.2 i).bind fun kvs => (dlook kvs z).bind fun d => some (.v d, p.2) := rfl
@[simp] theorem runE_din (m : Bool) (i : Nat) (k : IE) : runE Γ C (.din m i k) env = (hd k (runE Γ C k env) env).bind fun p => (p.1.get p.2).bind fun y => (keyD y).bind fun z => (dctAt p.2 i).bind fun kvs => some (.v (.bool (xor m (dlook kvs z).isSome)), p.2) := rfl
@[simp] theorem runE_bits (a : IE) : runE Γ C (.bits a) env = un1 (hd a (runE Γ C a env) env) fun d => match d with
      | .int i => some (.v (.int (Builtin.Int.intBits i : Nat)))
      | _ => none := rfl
@[simp] theorem key_i (i : Int) : keyD (.int i) = some (.inl i) := rfl
@[simp] theorem key_s (x : Str) : keyD (.str x) = some (.inr x) := rfl
@[simp] theorem pairs_0 : pairsD [] = some [] := rfl
@[simp] theorem pairs_2 (k v : PyData) (r : List PyData) : pairsD (k :: v :: r) = (keyD k).bind fun _ => (pairsD r).bind fun l => some ((k, v) :: l) := rfl
theorem runS_dput (i : Nat) (k e : IE) : runS Γ C FU (.dput i k e) env = (runE Γ C e env).bind fun p => (dctAt p.2 i).bind fun _ => (hd k (runE Γ C k p.2) p.2).bind fun q => (q.1.get q.2).bind fun y => (keyD y).bind fun z => match q.2.at i with
      | some (.w kvs) => if kvs.length < sizeLine then some (.nx (q.2.set i (some (.w (dput kvs y z p.1.d))))) else none
      | _ => none := rfl
@[simp] theorem hd_mt (m) (i : Nat) (a : IL) (r : RE) : hd (.mt m i a) r env = r.bind fun p => some (.d p.1.d, p.2) := rfl
@[simp] theorem use_v {i : Nat} {d : PyData} (h : env.at i = some (.v d)) : useI env i = some (.v d, env) := by
  unfold useI
  rw [h]
@[simp] theorem use_o {i : Nat} {ds : List PyData} (h : env.at i = some (.o ds)) : useI env i = some (.v (.list ds), env.set i (some (.v (.list ds)))) := by
  unfold useI
  rw [h]
@[simp] theorem put_v {i : Nat} {d : PyData} {s : Sl} (h : env.at i = some (.v d)) : env.put i s = some (env.set i (some s)) := by
  unfold En.put
  rw [h]
@[simp] theorem put_o {i : Nat} {d : List PyData} {s : Sl} (h : env.at i = some (.o d)) : env.put i s = some (env.set i (some s)) := by
  unfold En.put
  rw [h]
@[simp] theorem put_w {i : Nat} {d : List (PyData × PyData)} {s : Sl} (h : env.at i = some (.w d)) : env.put i s = some (env.set i (some s)) := by
  unfold En.put
  rw [h]
@[simp] theorem use_w {i : Nat} {ds : List (PyData × PyData)} (h : env.at i = some (.w ds)) : useI env i = some (.v (.dict ds), env.set i (some (.v (.dict ds)))) := by
  unfold useI
  rw [h]
@[simp] theorem put_none {i : Nat} {s : Sl} (h : env.at i = none) : env.put i s = some (env.set i (some s)) := by
  unfold En.put
  rw [h]
@[simp] theorem runE_k (d : PyData) : runE Γ C (.k d) env = some (.v d, env) := rfl
@[simp] theorem runE_g (x : Str) : runE Γ C (.g x) env = (C.lookup x).bind fun d => some (.v d, env) := rfl
@[simp] theorem runE_x (i : Nat) : runE Γ C (.x i) env = useI env i := rfl
@[simp] theorem runE_bin (op : Operator) (a b : IE) : runE Γ C (.bin op a b) env = (hd a (runE Γ C a env) env).bind fun p => (hd b (runE Γ C b p.2) p.2).bind fun q =>
      (p.1.get q.2).bind fun x => (q.1.get q.2).bind fun y => (binD op x y).bind fun r => some (r, q.2) := rfl
@[simp] theorem runE_neg (a : IE) : runE Γ C (.neg a) env = un1 (hd a (runE Γ C a env) env) fun d => match d with
      | .int i => some (.v (.int (-i)))
      | _ => none := rfl
@[simp] theorem runE_not (a : IE) : runE Γ C (.not a) env = un1 (hd a (runE Γ C a env) env) fun d => (truD d).bind fun b => some (.v (.bool !b)) := rfl
@[simp] theorem runE_and (a b : IE) : runE Γ C (.and a b) env = (runE Γ C a env).bind fun p => (truD p.1.d).bind fun t => if t = true then runE Γ C b p.2 else some (.v p.1.d, p.2) := rfl
@[simp] theorem runE_or (a b : IE) : runE Γ C (.or a b) env = (runE Γ C a env).bind fun p => (truD p.1.d).bind fun t => if t = true then some (.v p.1.d, p.2) else runE Γ C b p.2 := rfl
@[simp] theorem runE_cmp (op : CmpOp) (a b : IE) : runE Γ C (.cmp op a b) env = (hd a (runE Γ C a env) env).bind fun p => (hd b (runE Γ C b p.2) p.2).bind fun q =>
      (p.1.get q.2).bind fun x => (q.1.get q.2).bind fun y => (cmpD op x y).bind fun r => some (.v (.bool r), q.2) := rfl
@[simp] theorem runE_ch (op op' : CmpOp) (a b c : IE) : runE Γ C (.ch op op' a b c) env = (hd a (runE Γ C a env) env).bind fun p => (hd b (runE Γ C b p.2) p.2).bind fun q =>
      (p.1.get q.2).bind fun x => (q.1.get q.2).bind fun y => (cmpD op x y).bind fun r => if r = true then
        (hd c (runE Γ C c q.2) q.2).bind fun w => (q.1.get w.2).bind fun y' => (w.1.get w.2).bind fun z => (cmpD op' y' z).bind fun r' => some (.v (.bool r'), w.2)
      else some (.v (.bool false), q.2) := rfl
@[simp] theorem runE_ife (t : IT) (a b : IE) : runE Γ C (.ife t a b) env = (runT Γ C t env).bind fun p => if p.1 = true then runE Γ C a p.2 else runE Γ C b p.2 := rfl
@[simp] theorem runE_ix (a b : IE) : runE Γ C (.ix a b) env = (hd a (runE Γ C a env) env).bind fun p => (hd b (runE Γ C b p.2) p.2).bind fun q =>
      (p.1.get q.2).bind fun x => (q.1.get q.2).bind fun y => (ixD x y).bind fun r => some (.v r, q.2) := rfl
@[simp] theorem runE_sl (a : IE) (lo hi : IO) : runE Γ C (.sl a lo hi) env = (hd a (runE Γ C a env) env).bind fun p => (runO Γ C lo p.2).bind fun q => (runO Γ C hi q.2).bind fun w =>
      (p.1.get w.2).bind fun x => (slD x q.1 w.1).bind fun r => some (r, w.2) := rfl
@[simp] theorem runE_rv (a : IE) : runE Γ C (.rv a) env = un1 (hd a (runE Γ C a env) env) rvD := rfl
@[simp] theorem runE_tup (es : IL) : runE Γ C (.tup es) env = (runV Γ C es env).bind fun p => (getD p.1).bind fun ds => if ds.length ≤ sizeLine then some (.v (.tuple ds), p.2) else none := rfl
@[simp] theorem runE_lst (es : IL) : runE Γ C (.lst es) env = (runV Γ C es env).bind fun p => (getD p.1).bind fun ds => if ds.length ≤ sizeLine then some (.o ds, p.2) else none := rfl
@[simp] theorem runE_fn (f : BF) (es : IL) : runE Γ C (.fn f es) env = (runL Γ C es env).bind fun p => (getL p.2 p.1).bind fun ds => (fnD f ds).bind fun r => some (r, p.2) := rfl
@[simp] theorem runE_isi (a : IE) (t : String) : runE Γ C (.isi a t) env = un1 (hd a (runE Γ C a env) env) fun d => if isF d = true then none else some (.v (.bool (isiD d t))) := rfl
@[simp] theorem isF_n : isF .none = false := rfl
@[simp] theorem isF_b (b : Bool) : isF (.bool b) = false := rfl
@[simp] theorem isF_i (i : Int) : isF (.int i) = false := rfl
@[simp] theorem isF_s (s : Str) : isF (.str s) = false := rfl
@[simp] theorem isF_l (l : List PyData) : isF (.list l) = false := rfl
@[simp] theorem isF_t (l : List PyData) : isF (.tuple l) = false := rfl
@[simp] theorem isF_d (l : List (PyData × PyData)) : isF (.dict l) = fnQ l := rfl
@[simp] theorem fnQ_nil : fnQ [] = false := rfl
@[simp] theorem fnQ_int (i : Int) (d : PyData) (r : List (PyData × PyData)) : fnQ ((.int i, d) :: r) = false := rfl
@[simp] theorem fnQ_str (i : Str) (d : PyData) (r : List (PyData × PyData)) : fnQ ((.str i, d) :: r) = false := rfl
@[simp] theorem runE_act (i f : Nat) (x : Str) (es : IL) : runE Γ C (.act i f x es) env = if fnAt env i x = true then (runV Γ C es env).bind fun p => (getA p.2 false p.1).bind fun as => (Γ f as).bind fun r => some (r.1, putA p.2 p.1 r.2) else none := rfl
@[simp] theorem runE_call (f : Nat) (es : IL) : runE Γ C (.call f es) env = (runV Γ C es env).bind fun p => (getA p.2 false p.1).bind fun as => (Γ f as).bind fun r => some (r.1, putA p.2 p.1 r.2) := rfl
theorem runE_lc (own : List (Str × Nat)) (g : IG) (it : II) (c : IT) (e : IE) : runE Γ C (.lc own g it c e) env = (runI Γ C it env).bind fun p => if noOwn p.2 own = true then
      (compD (lcTurn Γ C own g c e) p.1 (wipeE p.2 own)).bind fun q => if q.1.length ≤ sizeLine then some (.o q.1, backE p.2 q.2 own) else none
      else none := rfl
theorem runE_lcl (own : List (Str × Nat)) (i : Nat) (g : IG) (c : IT) (e : IE) : runE Γ C (.lcl own i g c e) env = (atS env i).bind fun ds => if noOwn env own = true ∧ (own.all fun p => !decide (p.2 = i)) = true then
      (compD (fun d en => if sameL en i ds = true then lcTurn Γ C own g c e d en else none) ds (wipeE env own)).bind fun q => if sameL q.2 i ds = true ∧ q.1.length ≤ sizeLine then some (.o q.1, backE env q.2 own) else none
      else none := rfl
theorem runE_lcd (own : List (Str × Nat)) (i : Nat) (g : IG) (c : IT) (e : IE) : runE Γ C (.lcd own i g c e) env = (keysAt env i).bind fun ds => if noOwn env own = true then
      (compD (lcTurn Γ C own g c e) ds (wipeE env own)).bind fun q => if q.1.length ≤ sizeLine then some (.o q.1, backE env q.2 own) else none
      else none := rfl
theorem runE_dcm (own : List (Str × Nat)) (g : IG) (it : II) (c : IT) (k e : IE) : runE Γ C (.dcm own g it c k e) env = (runI Γ C it env).bind fun p => if noOwn p.2 own = true then
      (compD (dcTurn Γ C own g c k e) p.1 (wipeE p.2 own)).bind fun q => if q.1.length ≤ sizeLine then (prsD q.1).bind fun kvs => some (.w (mergeD [] kvs), backE p.2 q.2 own) else none
      else none := rfl
theorem keysAt_v {i : Nat} {kvs : List (PyData × PyData)} (h : env.at i = some (.v (.dict kvs))) (hq : fnQ kvs = false) : keysAt env i = some (kvs.map (·.1)) := by
  unfold keysAt
  rw [h]
  exact if_neg (by rw [hq]; exact Bool.false_ne_true)
@[simp] theorem runE_lrg (a : IE) : runE Γ C (.lrg a) env = (hd a (runE Γ C a env) env).bind fun p => (p.1.get p.2).bind fun d => match d with
      | .int j => (lrgO 0 j).bind fun ds => some (.o ds, p.2)
      | _ => none := rfl
@[simp] theorem runE_lrg2 (a b : IE) : runE Γ C (.lrg2 a b) env = (hd a (runE Γ C a env) env).bind fun p => (hd b (runE Γ C b p.2) p.2).bind fun q =>
      (p.1.get q.2).bind fun x => (q.1.get q.2).bind fun y => match x, y with
      | .int i, .int j => (lrgO i j).bind fun ds => some (.o ds, q.2)
      | _, _ => none := rfl
theorem runE_mt (m : MT) (i : Nat) (es : IL) : runE Γ C (.mt m i es) env = if mutAt env i = true then (runV Γ C es env).bind fun p => (getD p.1).bind fun ds => match p.2.at i with
      | some (.o xs) => (mtD m xs ds).bind fun r => some (.v r.1, p.2.set i (some (.o r.2)))
      | some (.b xs) => (mtD m xs ds).bind fun r => some (.v r.1, p.2.set i (some (.b r.2)))
      | _ => none
    else none := rfl
@[simp] theorem un1_some (h : Hd) (e : En) (f : PyData → Option Sl) : un1 (some (h, e)) f = (h.get e).bind fun d => (f d).bind fun r => some (r, e) := rfl
@[simp] theorem tr1_some (h : Hd) (e : En) : tr1 (some (h, e)) = (h.get e).bind fun d => (truD d).bind fun r => some (r, e) := rfl
@[simp] theorem runT_yes : runT Γ C .yes env = some (true, env) := rfl
@[simp] theorem runT_e (a : IE) : runT Γ C (.e a) env = tr1 (hd a (runE Γ C a env) env) := rfl
@[simp] theorem runT_not (a : IT) : runT Γ C (.not a) env = (runT Γ C a env).bind fun p => some (!p.1, p.2) := rfl
@[simp] theorem runT_and (a b : IT) : runT Γ C (.and a b) env = (runT Γ C a env).bind fun p => if p.1 = true then runT Γ C b p.2 else some (false, p.2) := rfl
@[simp] theorem runT_or (a b : IT) : runT Γ C (.or a b) env = (runT Γ C a env).bind fun p => if p.1 = true then some (true, p.2) else runT Γ C b p.2 := rfl
@[simp] theorem runL_nil : runL Γ C .nil env = some ([], env) := rfl
@[simp] theorem runL_cons (a : IE) (r : IL) : runL Γ C (.cons a r) env = (hd a (runE Γ C a env) env).bind fun p => (runL Γ C r p.2).bind fun q => some (p.1 :: q.1, q.2) := rfl
@[simp] theorem runV_nil : runV Γ C .nil env = some ([], env) := rfl
@[simp] theorem runV_cons (a : IE) (r : IL) : runV Γ C (.cons a r) env = (runE Γ C a env).bind fun p => (runV Γ C r p.2).bind fun q => some (.d p.1.d :: q.1, q.2) := rfl
@[simp] theorem runV_star (a : IE) (r : IL) : runV Γ C (.star a r) env = (runE Γ C a env).bind fun p => match p.1.d with
      | .list ds => (runV Γ C r p.2).bind fun q => some (ds.map Hd.d ++ q.1, q.2)
      | .tuple ds => (runV Γ C r p.2).bind fun q => some (ds.map Hd.d ++ q.1, q.2)
      | _ => none := rfl
@[simp] theorem runV_io (i : Nat) (r : IL) : runV Γ C (.io i r) env = if (env.at i).isSome then (runV Γ C r env).bind fun q => some (.s i :: q.1, q.2) else none := rfl
@[simp] theorem runR_nil : runR Γ C .nil env = some ([], env) := rfl
@[simp] theorem runR_cons (a : IE) (r : IL) : runR Γ C (.cons a r) env = (runE Γ C a env).bind fun p => (runR Γ C r p.2).bind fun q => some (p.1 :: q.1, q.2) := rfl
@[simp] theorem putN_nil : putN [] [] env = some env := rfl
@[simp] theorem putN_cons (i : Nat) (is : List Nat) (s : Sl) (ss : List Sl) : putN (i :: is) (s :: ss) env = (env.put i s).bind fun e => putN is ss e := rfl
@[simp] theorem runO_no : runO Γ C .no env = some (none, env) := rfl
@[simp] theorem runO_so (a : IE) : runO Γ C (.so a) env = (hd a (runE Γ C a env) env).bind fun p => (p.1.get p.2).bind fun d => match d with
      | .int i => some (some i, p.2)
      | _ => none := rfl
@[simp] theorem runI_e (a : IE) : runI Γ C (.e a) env = (runE Γ C a env).bind fun p => match p.1.d with
      | .list ds => some (ds, p.2)
      | .tuple ds => some (ds, p.2)
      | _ => none := rfl
@[simp] theorem runI_r1 (a : IE) : runI Γ C (.r1 a) env = (hd a (runE Γ C a env) env).bind fun p => (p.1.get p.2).bind fun d => match d with
      | .int j => (rngO 0 j).bind fun ds => some (ds, p.2)
      | _ => none := rfl
@[simp] theorem runI_r2 (a b : IE) : runI Γ C (.r2 a b) env = (hd a (runE Γ C a env) env).bind fun p => (hd b (runE Γ C b p.2) p.2).bind fun q =>
      (p.1.get q.2).bind fun x => (q.1.get q.2).bind fun y => match x, y with
      | .int i, .int j => (rngO i j).bind fun ds => some (ds, q.2)
      | _, _ => none := rfl
@[simp] theorem runI_rd (a b : IE) : runI Γ C (.rd a b) env = (hd a (runE Γ C a env) env).bind fun p => (hd b (runE Γ C b p.2) p.2).bind fun q =>
      (p.1.get q.2).bind fun x => (q.1.get q.2).bind fun y => match x, y with
      | .int i, .int j => (dwnO i j).bind fun ds => some (ds, q.2)
      | _, _ => none := rfl
@[simp] theorem runI_zip (a b : IE) : runI Γ C (.zip a b) env = (runE Γ C a env).bind fun p => (runE Γ C b p.2).bind fun q => match p.1.d, q.1.d with
      | .list xs, .list ys => some (zipD xs ys, q.2)
      | .tuple xs, .tuple ys => some (zipD xs ys, q.2)
      | _, _ => none := rfl
@[simp] theorem runI_enum (a : IE) : runI Γ C (.enum a) env = (runE Γ C a env).bind fun p => match p.1.d with
      | .list ds => some (enumD 0 ds, p.2)
      | .tuple ds => some (enumD 0 ds, p.2)
      | _ => none := rfl
@[simp] theorem getL_nil : getL env [] = some [] := rfl
@[simp] theorem getL_cons (h : Hd) (r : List Hd) : getL env (h :: r) = (h.get env).bind fun d => (getL env r).bind fun ds => some (d :: ds) := rfl
@[simp] theorem getD_nil : getD [] = some [] := rfl
@[simp] theorem getD_cons (z : PyData) (r : List Hd) : getD (.d z :: r) = (getD r).bind fun ds => some (z :: ds) := rfl
@[simp] theorem getA_nil (k : Bool) : getA env k [] = some [] := by cases k <;> rfl
@[simp] theorem getA_d (k : Bool) (z : PyData) (r : List Hd) : getA env k (.d z :: r) = (getA env k r).bind fun ds => some (.v z :: ds) := by cases k <;> rfl
@[simp] theorem getA_so {i : Nat} {ds : List PyData} (r : List Hd) (h : env.at i = some (.o ds)) : getA env false (.s i :: r) = (getA env true r).bind fun l => some (.b ds :: l) := by
  show (match env.at i with
    | some (.o ds) => (getA env true r).bind fun l => some (Sl.b ds :: l)
    | some (.b ds) => (getA env true r).bind fun l => some (Sl.b ds :: l)
    | _ => none) = _
  rw [h]
@[simp] theorem getA_sb {i : Nat} {ds : List PyData} (r : List Hd) (h : env.at i = some (.b ds)) : getA env false (.s i :: r) = (getA env true r).bind fun l => some (.b ds :: l) := by
  show (match env.at i with
    | some (.o ds) => (getA env true r).bind fun l => some (Sl.b ds :: l)
    | some (.b ds) => (getA env true r).bind fun l => some (Sl.b ds :: l)
    | _ => none) = _
  rw [h]
@[simp] theorem lent_nil : lentS [] = none := rfl
@[simp] theorem lent_d (z : PyData) (r : List Hd) : lentS (.d z :: r) = lentS r := rfl
@[simp] theorem lent_s (i : Nat) (r : List Hd) : lentS (.s i :: r) = some i := rfl
theorem putA_none {hs : List Hd} (l : List PyData) (h : lentS hs = none) : putA env hs l = env := by
  unfold putA
  rw [h]
theorem putA_o {hs : List Hd} {i : Nat} {ds : List PyData} (l : List PyData) (h : lentS hs = some i) (h2 : env.at i = some (.o ds)) : putA env hs l = env.set i (some (.o l)) := by
  unfold putA
  rw [h]
  simp only [h2]
theorem putA_b {hs : List Hd} {i : Nat} {ds : List PyData} (l : List PyData) (h : lentS hs = some i) (h2 : env.at i = some (.b ds)) : putA env hs l = env.set i (some (.b l)) := by
  unfold putA
  rw [h]
  simp only [h2]
@[simp] theorem putA_dn (z : PyData) (r : List Hd) (l : List PyData) : putA env (.d z :: r) l = putA env r l := rfl
@[simp] theorem putA_nil (l : List PyData) : putA env [] l = env := rfl
@[simp] theorem putA_so {i : Nat} {ds : List PyData} (r : List Hd) (l : List PyData) (h : env.at i = some (.o ds)) : putA env (.s i :: r) l = env.set i (some (.o l)) := putA_o l rfl h
@[simp] theorem putA_sb {i : Nat} {ds : List PyData} (r : List Hd) (l : List PyData) (h : env.at i = some (.b ds)) : putA env (.s i :: r) l = env.set i (some (.b l)) := putA_b l rfl h
/-! statements -/
@[simp] theorem runS_set (i : Nat) (e : IE) : runS Γ C FU (.set i e) env = (runE Γ C e env).bind fun p => (p.2.put i p.1).bind fun env' => some (.nx env') := rfl
@[simp] theorem runS_tgt (gs : IGs) (e : IE) : runS Γ C FU (.tgt gs e) env = (runE Γ C e env).bind fun p => match p.1.d with
      | .tuple ds => (runGs gs ds p.2).bind fun env' => some (.nx env')
      | _ => none := rfl
@[simp] theorem runS_par2 (i j : Nat) (a b : IE) : runS Γ C FU (.par2 i j a b) env = (runE Γ C a env).bind fun p => (runE Γ C b p.2).bind fun q => (q.2.put i p.1).bind fun e1 => (e1.put j q.1).bind fun e2 => some (.nx e2) := rfl
@[simp] theorem runS_par3 (i j l : Nat) (a b c : IE) : runS Γ C FU (.par3 i j l a b c) env = (runE Γ C a env).bind fun p => (runE Γ C b p.2).bind fun q => (runE Γ C c q.2).bind fun w =>
      (w.2.put i p.1).bind fun e1 => (e1.put j q.1).bind fun e2 => (e2.put l w.1).bind fun e3 => some (.nx e3) := rfl
@[simp] theorem runS_parn (is : List Nat) (es : IL) : runS Γ C FU (.parn is es) env = (runR Γ C es env).bind fun p => (putN is p.1 p.2).bind fun e => some (.nx e) := rfl
theorem runS_six (i : Nat) (k e : IE) : runS Γ C FU (.six i k e) env = (runE Γ C e env).bind fun p => if mutAt p.2 i = true then (hd k (runE Γ C k p.2) p.2).bind fun q => (q.1.get q.2).bind fun y => match y with
      | .int z => (atS q.2 i).bind fun xs => (ixN xs.length z).bind fun j => (setS q.2 i (xs.set j p.1.d)).bind fun env' => some (.nx env')
      | _ => none
    else none := rfl
theorem runS_aug (i : Nat) (op : Operator) (e : IE) : runS Γ C FU (.aug i op e) env = (hd e (runE Γ C e env) env).bind fun p => match env.at i with
      | some (.v x) => (p.1.get p.2).bind fun y => (augD op x y).bind fun d => (p.2.put i (.v d)).bind fun env' => some (.nx env')
      | _ => none := rfl
theorem runS_aix (i : Nat) (k : IE) (op : Operator) (e : IE) : runS Γ C FU (.aix i k op e) env = if mutAt env i = true then (hd k (runE Γ C k env) env).bind fun p => (p.1.get p.2).bind fun y => match y with
      | .int z => (atS p.2 i).bind fun xs => (ixN xs.length z).bind fun j => (xs[j]?).bind fun old => (hd e (runE Γ C e p.2) p.2).bind fun q => (q.1.get q.2).bind fun w => (augD op old w).bind fun d =>
          (atS q.2 i).bind fun ys => (ixN ys.length z).bind fun j' => (setS q.2 i (ys.set j' d)).bind fun env' => some (.nx env')
      | _ => none
    else none := rfl
@[simp] theorem runS_ret (e : IE) : runS Γ C FU (.ret e) env = (runE Γ C e env).bind fun p => some (.rt p.1 p.2) := rfl
theorem runS_retx (i : Nat) : runS Γ C FU (.retx i) env = match env.at i with
      | some (.o ds) => some (.rt (.o ds) (env.set i none))
      | some (.w ds) => some (.rt (.w ds) (env.set i none))
      | some (.v d) => some (.rt (.v d) env)
      | _ => none := rfl
@[simp] theorem retx_v {i : Nat} {d : PyData} (h : env.at i = some (.v d)) : runS Γ C FU (.retx i) env = some (.rt (.v d) env) := by
  rw [runS_retx, h]
@[simp] theorem retx_o {i : Nat} {d : List PyData} (h : env.at i = some (.o d)) : runS Γ C FU (.retx i) env = some (.rt (.o d) (env.set i none)) := by
  rw [runS_retx, h]
@[simp] theorem runS_retn : runS Γ C FU .retn env = some (.rt (.v .none) env) := rfl
@[simp] theorem runS_ex (e : IE) : runS Γ C FU (.ex e) env = (runE Γ C e env).bind fun p => some (.nx p.2) := rfl
@[simp] theorem runS_cond (t : IT) (a b : IB) : runS Γ C FU (.cond t a b) env = (runT Γ C t env).bind fun p => if p.1 = true then runB Γ C FU a p.2 else runB Γ C FU b p.2 := rfl
theorem runS_for (g : IG) (it : II) (b : IB) (ws : List Nat) : runS Γ C FU (.for g it b ws) env = (runI Γ C it env).bind fun p => forD (fun d en => (runG g d en).bind fun en1 => (runB Γ C FU b en1).bind fun f => some (wipF ws f)) p.1 (wipeS p.2 ws) := rfl
theorem runS_wh (t : IT) (b : IB) (ws : List Nat) : runS Γ C FU (.wh t b ws) env = whileD (fun en => runT Γ C t en) (fun en => (runB Γ C FU b en).bind fun f => some (wipF ws f)) FU (wipeS env ws) := rfl
@[simp] theorem runS_brk : runS Γ C FU .brk env = some (.bk env) := rfl
@[simp] theorem runS_cnt : runS Γ C FU .cnt env = some (.ct env) := rfl
@[simp] theorem runS_pass : runS Γ C FU .pass env = some (.nx env) := rfl
@[simp] theorem runB_nil : runB Γ C FU .nil env = some (.nx env) := rfl
@[simp] theorem runB_cons (s : IS) (r : IB) : runB Γ C FU (.cons s r) env = (runS Γ C FU s env).bind fun f => match f with
    | .nx e => runB Γ C FU r e
    | .bk e => some (.bk e)
    | .ct e => some (.ct e)
    | .rt x e => some (.rt x e) := rfl
@[simp] theorem runG_n (i : Nat) (d : PyData) : runG (.n i) d env = env.put i (.v d) := rfl
@[simp] theorem runG_t (gs : IGs) (ds : List PyData) : runG (.t gs) (.tuple ds) env = runGs gs ds env := rfl
@[simp] theorem runGs_nil : runGs .nil [] env = some env := rfl
@[simp] theorem runGs_cons (g : IG) (r : IGs) (d : PyData) (ds : List PyData) : runGs (.cons g r) (d :: ds) env = (runG g d env).bind fun env' => runGs r ds env' := rfl
theorem rngO_ok {i j : Int} (h1 : -1000000000000 ≤ i) (h2 : i ≤ 1000000000000) (h3 : -1000000000000 ≤ j) (h4 : j ≤ 1000000000000) : rngO i j = some (rngD i (j - i).toNat) := if_pos ⟨log_of h1 h2, log_of h3 h4⟩
theorem rngO_n {i j : Int} {n : Nat} (h1 : -1000000000000 ≤ i) (h2 : i ≤ 1000000000000) (h3 : -1000000000000 ≤ j) (h4 : j ≤ 1000000000000) (hn : (j - i).toNat = n) : rngO i j = some (rngD i n) := by rw [rngO_ok h1 h2 h3 h4, hn]
theorem dwnO_n {i j : Int} {n : Nat} (h1 : -1000000000000 ≤ i) (h2 : i ≤ 1000000000000) (h3 : -1000000000000 ≤ j) (h4 : j ≤ 1000000000000) (hn : (i - j).toNat = n) : dwnO i j = some (dwnD i n) := by
  rw [← hn]
  exact if_pos ⟨log_of h1 h2, log_of h3 h4⟩
theorem lrgO_n {i j : Int} {n : Nat} (h1 : -1000000000000 ≤ i) (h2 : i ≤ 1000000000000) (h3 : -1000000000000 ≤ j) (h4 : j ≤ 1000000000000) (hn : (j - i).toNat = n) (h5 : n ≤ 10000000) : lrgO i j = some (rngD i n) := by
  rw [← hn]
  exact if_pos ⟨log_of h1 h2, log_of h3 h4, by omega⟩
/-! operations -/
@[simp] theorem add_ii (a b : Int) : binD .Add (.int a) (.int b) = some (.v (.int (a + b))) := rfl
@[simp] theorem sub_ii (a b : Int) : binD .Sub (.int a) (.int b) = some (.v (.int (a - b))) := rfl
@[simp] theorem mul_ii {a b : Int} (h : a.natAbs.log2 + b.natAbs.log2 < 1000000) : binD .Mult (.int a) (.int b) = some (.v (.int (a * b))) := if_pos h
@[simp] theorem mod_ii {a b : Int} (h : 0 < b) : binD .Mod (.int a) (.int b) = some (.v (.int (a % b))) := if_pos h
@[simp] theorem fdiv_ii {a b : Int} (h : 0 < b ∧ b.natAbs.log2 < 9000) : binD .FloorDiv (.int a) (.int b) = some (.v (.int (a / b))) := if_pos h
@[simp] theorem add_ll {a b : List PyData} (h : a.length + b.length ≤ sizeLine) : binD .Add (.list a) (.list b) = some (.o (a ++ b)) := if_pos h
@[simp] theorem add_tt {a b : List PyData} (h : a.length + b.length ≤ sizeLine) : binD .Add (.tuple a) (.tuple b) = some (.v (.tuple (a ++ b))) := if_pos h
@[simp] theorem aug_add (a b : Int) : augD .Add (.int a) (.int b) = some (.int (a + b)) := rfl
@[simp] theorem aug_sub (a b : Int) : augD .Sub (.int a) (.int b) = some (.int (a - b)) := rfl
@[simp] theorem tru_b (b : Bool) : truD (.bool b) = some b := rfl
@[simp] theorem tru_i (i : Int) : truD (.int i) = some (i != 0) := rfl
@[simp] theorem tru_n : truD .none = some false := rfl
@[simp] theorem tru_l (l : List PyData) : truD (.list l) = some (!l.isEmpty) := rfl
@[simp] theorem tru_t (l : List PyData) : truD (.tuple l) = some (!l.isEmpty) := rfl
@[simp] theorem lt_ii (a b : Int) : cmpD .Lt (.int a) (.int b) = some (decide (a < b)) := rfl
@[simp] theorem le_ii (a b : Int) : cmpD .LtE (.int a) (.int b) = some (decide (a ≤ b)) := rfl
@[simp] theorem gt_ii (a b : Int) : cmpD .Gt (.int a) (.int b) = some (decide (b < a)) := rfl
@[simp] theorem ge_ii (a b : Int) : cmpD .GtE (.int a) (.int b) = some (decide (b ≤ a)) := rfl
theorem eq_any {a b : PyData} (h : SeqAt.shaped a = true) (h' : SeqAt.shaped b = true) : cmpD .Eq a b = some (PyData.eqv a b) := by
  simp only [cmpD, h, h', and_self, if_true]
theorem ne_any {a b : PyData} (h : SeqAt.shaped a = true) (h' : SeqAt.shaped b = true) : cmpD .NotEq a b = some (!PyData.eqv a b) := by
  simp only [cmpD, h, h', and_self, if_true]
@[simp] theorem eq_ii (a b : Int) : cmpD .Eq (.int a) (.int b) = some (decide (a = b)) := by
  have h : cmpD .Eq (.int a) (.int b) = some (PyData.eqv (.int a) (.int b)) := eq_any rfl rfl
  rw [h]
  show some (a == b) = _
  exact congrArg some (Bool.beq_eq_decide_eq a b)
@[simp] theorem ne_ii (a b : Int) : cmpD .NotEq (.int a) (.int b) = some (!decide (a = b)) := by
  have h : cmpD .NotEq (.int a) (.int b) = some (!PyData.eqv (.int a) (.int b)) := ne_any rfl rfl
  rw [h]
  show some (!(a == b)) = _
  exact congrArg (fun t => some (!t)) (Bool.beq_eq_decide_eq a b)
theorem no_shd (ks : List (PyData × PyData)) : ¬ (SeqAt.shaped (.dict ks) = true ∧ SeqAt.shaped (.dict []) = true) := fun h => by
  have := shaped_nd h.1
  simp [PyData.hasDict] at this
@[simp] theorem eq_de (ks : List (PyData × PyData)) (hq : fnQ ks = false) : cmpD .Eq (.dict ks) (.dict []) = some ks.isEmpty := by
  simp [cmpD, if_neg (no_shd ks), hq]
@[simp] theorem ne_de (ks : List (PyData × PyData)) (hq : fnQ ks = false) : cmpD .NotEq (.dict ks) (.dict []) = some (!ks.isEmpty) := by
  simp [cmpD, if_neg (no_shd ks), hq]
@[simp] theorem isN_n : cmpD .Is .none .none = some true := rfl
@[simp] theorem isN_i (i : Int) : cmpD .Is (.int i) .none = some false := rfl
@[simp] theorem isN_t (i : List PyData) : cmpD .Is (.tuple i) .none = some false := rfl
@[simp] theorem isN_l (i : List PyData) : cmpD .Is (.list i) .none = some false := rfl
@[simp] theorem is_bb (a b : Bool) : cmpD .Is (.bool a) (.bool b) = some (decide (a = b)) := rfl
@[simp] theorem isNot_bb (a b : Bool) : cmpD .IsNot (.bool a) (.bool b) = some (!decide (a = b)) := rfl
@[simp] theorem isN_b (i : Bool) : cmpD .Is (.bool i) .none = some false := rfl
@[simp] theorem isN_s (i : Str) : cmpD .Is (.str i) .none = some false := rfl
@[simp] theorem isNN_b (i : Bool) : cmpD .IsNot (.bool i) .none = some true := rfl
@[simp] theorem isNN_s (i : Str) : cmpD .IsNot (.str i) .none = some true := rfl
@[simp] theorem isNN_n : cmpD .IsNot .none .none = some false := rfl
@[simp] theorem isNN_i (i : Int) : cmpD .IsNot (.int i) .none = some true := rfl
@[simp] theorem isNN_t (i : List PyData) : cmpD .IsNot (.tuple i) .none = some true := rfl
@[simp] theorem isNN_l (i : List PyData) : cmpD .IsNot (.list i) .none = some true := rfl
@[simp] theorem ix_l (xs : List PyData) (i : Int) : ixD (.list xs) (.int i) = atI xs i := rfl
@[simp] theorem ix_t (xs : List PyData) (i : Int) : ixD (.tuple xs) (.int i) = atI xs i := rfl
@[simp] theorem sl_l (xs : List PyData) (a b : Option Int) : slD (.list xs) a b = some (.o (cutL xs a b)) := rfl
@[simp] theorem sl_t (xs : List PyData) (a b : Option Int) : slD (.tuple xs) a b = some (.v (.tuple (cutL xs a b))) := rfl
@[simp] theorem rv_t (xs : List PyData) : rvD (.tuple xs) = some (.v (.tuple xs.reverse)) := rfl
@[simp] theorem rv_l (xs : List PyData) : rvD (.list xs) = some (.o xs.reverse) := rfl
@[simp] theorem fn_len_l (xs : List PyData) : fnD .len [.list xs] = some (.v (.int xs.length)) := rfl
@[simp] theorem fn_len_t (xs : List PyData) : fnD .len [.tuple xs] = some (.v (.int xs.length)) := rfl
@[simp] theorem fn_abs (i : Int) : fnD .abs [.int i] = some (.v (.int (if i < 0 then -i else i))) := rfl
@[simp] theorem fn_int (i : Int) : fnD .int [.int i] = some (.v (.int i)) := rfl
@[simp] theorem fn_intb (k : Bool) : fnD .int [.bool k] = some (.v (.int (if k then 1 else 0))) := rfl
@[simp] theorem fn_max (i j : Int) : fnD .max2 [.int i, .int j] = some (.v (.int (if j > i then j else i))) := rfl
@[simp] theorem fn_min (i j : Int) : fnD .min2 [.int i, .int j] = some (.v (.int (if j < i then j else i))) := rfl
@[simp] theorem fn_tl (xs : List PyData) : fnD .tuple [.list xs] = some (.v (.tuple xs)) := rfl
@[simp] theorem fn_tt (xs : List PyData) : fnD .tuple [.tuple xs] = some (.v (.tuple xs)) := rfl
@[simp] theorem fn_sum_l (xs : List PyData) : fnD .sum [.list xs] = (intsD xs).bind fun ns => some (.v (.int ns.sum)) := rfl
@[simp] theorem fn_sum_t (xs : List PyData) : fnD .sum [.tuple xs] = (intsD xs).bind fun ns => some (.v (.int ns.sum)) := rfl
@[simp] theorem fn_all (xs : List PyData) : fnD .all [.list xs] = (boolsD xs).bind fun bs => some (.v (.bool (bs.all id))) := rfl
@[simp] theorem fn_any (xs : List PyData) : fnD .any [.list xs] = (boolsD xs).bind fun bs => some (.v (.bool (bs.any id))) := rfl
@[simp] theorem fn_max1 (xs : List PyData) : fnD .max1 [.list xs] = (intsD xs).bind fun ns => (maxI ns).bind fun m => some (.v (.int m)) := rfl
@[simp] theorem fn_min1 (xs : List PyData) : fnD .min1 [.list xs] = (intsD xs).bind fun ns => (minI ns).bind fun m => some (.v (.int m)) := rfl
@[simp] theorem fn_sorted (xs : List PyData) : fnD .sorted [.list xs] = (sortD xs).bind fun ys => some (.o ys) := rfl
@[simp] theorem fn_len_d (kvs : List (PyData × PyData)) (hq : fnQ kvs = false) : fnD .len [.dict kvs] = some (.v (.int kvs.length)) := if_neg (by rw [hq]; exact Bool.false_ne_true)
@[simp] theorem fn_ld (kvs : List (PyData × PyData)) (hq : fnQ kvs = false) : fnD .list [.dict kvs] = some (.o (kvs.map (·.1))) := if_neg (by rw [hq]; exact Bool.false_ne_true)
@[simp] theorem fn_dict (xs : List PyData) : fnD .dict [.list xs] = (prsD xs).bind fun kvs => some (.w (mergeD [] kvs)) := rfl
@[simp] theorem fn_str {i : Int} (h : i.natAbs.log2 < 60) : fnD .str [.int i] = some (.v (.str (toString i))) := if_pos h
@[simp] theorem fn_dm {i j : Int} (h : 0 < j ∧ j.natAbs.log2 < 29) : fnD .divmod [.int i, .int j] = some (.v (.tuple [.int (i / j), .int (i % j)])) := if_pos h
@[simp] theorem fn_ll (xs : List PyData) : fnD .list [.list xs] = some (.o xs) := rfl
@[simp] theorem fn_lt (xs : List PyData) : fnD .list [.tuple xs] = some (.o xs) := rfl
end
theorem atI_0 {α : Type} (x : α) (r : List α) : atI (x :: r) 0 = some x := atI_nat (j := 0) rfl
theorem atI_lit {α : Type} (xs : List α) (n : Nat) (h : n < xs.length) : atI xs ((n : Nat) : Int) = xs[n]? := by
  rw [atI_nat (List.getElem?_eq_getElem h), List.getElem?_eq_getElem h]
end PF

/-! PF16: the helpers that every law has: the bag of drawn numbers, the comparison. -/
namespace PF
open PySem L2
theorem lg {a : Nat} {k : Nat} (hk : 0 < k) (h : a < 2 ^ k) : a.log2 < k := by
  by_cases h0 : a = 0
  · subst h0
    exact hk
  · exact (Nat.log2_lt h0).mpr h
theorem mulB {a b : Int} (h : a.natAbs < 10 ^ 60) (h' : b.natAbs < 10 ^ 60) : binD .Mult (.int a) (.int b) = some (.v (.int (a * b))) := by
  have h1 : a.natAbs.log2 < 200 := lg (by decide) (Nat.lt_trans h (by decide))
  have h2 : b.natAbs.log2 < 200 := lg (by decide) (Nat.lt_trans h' (by decide))
  exact if_pos (by omega)
theorem fdivB {a b : Int} (h : 0 < b) (h' : b.natAbs < 10 ^ 60) : binD .FloorDiv (.int a) (.int b) = some (.v (.int (a / b))) := by
  have h2 : b.natAbs.log2 < 200 := lg (by decide) (Nat.lt_trans h' (by decide))
  exact if_pos ⟨h, by omega⟩
theorem modB {a b : Int} (h : 0 < b) : binD .Mod (.int a) (.int b) = some (.v (.int (a % b))) := if_pos h
theorem runFn_eq {Γ : Tab} {C : List (Str × PyData)} {FU : Nat} {f : Fn} {as : List Sl} (h : as.length = f.ps.length) : runFn Γ C FU f as = (runB Γ C FU f.body (startE f.N.length as)).bind fun fl => match fl with
    | .nx env => (outA as env).bind fun l => some (.v .none, l)
    | .rt r env => (outA as env).bind fun l => some (r, l)
    | _ => none := if_pos h
/-! a name's slot, cell by cell -/
def NB (t : Option Sl) : Prop := ∀ l, t ≠ some (.b l)
@[simp] theorem nb_n : NB none := fun _ h => nomatch h
@[simp] theorem nb_v (d : PyData) : NB (some (.v d)) := fun _ h => nomatch h
@[simp] theorem nb_o (d : List PyData) : NB (some (.o d)) := fun _ h => nomatch h
@[simp] theorem nb_w (d : List (PyData × PyData)) : NB (some (.w d)) := fun _ h => nomatch h
section
variable {t : Option Sl} {r : En}
@[simp] theorem put_0 (s : Sl) (h : NB t) : En.put (t :: r) 0 s = some (some s :: r) := by
  unfold En.put
  rw [at_zero]
  match t, h with
  | none, _ => rfl
  | some (.v _), _ => rfl
  | some (.o _), _ => rfl
  | some (.w _), _ => rfl
  | some (.b l), h => exact absurd rfl (h l)
@[simp] theorem put_1 (i : Nat) (s : Sl) : En.put (t :: r) (i + 1) s = (En.put r i s).map (t :: ·) := by
  unfold En.put
  rw [at_succ]
  cases h : En.at r i with
  | none => rfl
  | some w => cases w <;> rfl
@[simp] theorem use_0v (d : PyData) : useI (some (.v d) :: r) 0 = some (.v d, some (.v d) :: r) := rfl
@[simp] theorem use_0o (d : List PyData) : useI (some (.o d) :: r) 0 = some (.v (.list d), some (.v (.list d)) :: r) := rfl
@[simp] theorem use_1 (i : Nat) : useI (t :: r) (i + 1) = (useI r i).map fun p => (p.1, t :: p.2) := by
  unfold useI
  rw [at_succ]
  cases h : En.at r i with
  | none => rfl
  | some w => cases w <;> rfl
@[simp] theorem use_0w (d : List (PyData × PyData)) : useI (some (.w d) :: r) 0 = some (.v (.dict d), some (.v (.dict d)) :: r) := rfl
@[simp] theorem dct_0w (d : List (PyData × PyData)) : dctAt (some (.w d) :: r) 0 = some d := rfl
@[simp] theorem dct_0v (d : List (PyData × PyData)) (hq : fnQ d = false) : dctAt (some (.v (.dict d)) :: r) 0 = some d := if_neg (by rw [hq]; exact Bool.false_ne_true)
@[simp] theorem fnAt_1 {t : Option Sl} (i : Nat) (x : Str) : fnAt (t :: r) (i + 1) x = fnAt r i x := rfl
@[simp] theorem fnAt_0 (x y : Str) : fnAt (some (.v (fnDt y)) :: r) 0 x = decide (y = x) := rfl
@[simp] theorem dct_1 (i : Nat) : dctAt (t :: r) (i + 1) = dctAt r i := rfl
@[simp] theorem mut_0o (d : List PyData) : mutAt (some (.o d) :: r) 0 = true := rfl
@[simp] theorem mut_0b (d : List PyData) : mutAt (some (.b d) :: r) 0 = true := rfl
@[simp] theorem mut_1 (i : Nat) : mutAt (t :: r) (i + 1) = mutAt r i := rfl
@[simp] theorem atS_0o (d : List PyData) : atS (some (.o d) :: r) 0 = some d := rfl
@[simp] theorem atS_0b (d : List PyData) : atS (some (.b d) :: r) 0 = some d := rfl
@[simp] theorem atS_1 (i : Nat) : atS (t :: r) (i + 1) = atS r i := rfl
@[simp] theorem setS_0o (d e : List PyData) : setS (some (.o d) :: r) 0 e = some (some (.o e) :: r) := rfl
@[simp] theorem setS_0b (d e : List PyData) : setS (some (.b d) :: r) 0 e = some (some (.b e) :: r) := rfl
@[simp] theorem setS_1 (i : Nat) (e : List PyData) : setS (t :: r) (i + 1) e = (setS r i e).map (t :: ·) := by
  unfold setS
  rw [at_succ]
  cases h : En.at r i with
  | none => rfl
  | some w => cases w <;> rfl
end
/-! the bag -/
structure Bag where
  z : Int
  s : Int
  c : Int
  cells : List Int
def Bag.d (b : Bag) : List PyData := [.int b.z, .int b.s, .int b.c, .list (b.cells.map .int)]
structure Bag.Ok (b : Bag) (n : Nat) : Prop where
  s0 : 0 ≤ b.s
  s1 : b.s < 2147483647
  c0 : 0 ≤ b.c
  c1 : b.c ≤ n
  l : b.cells.length ≤ 63
theorem Bag.Ok.mono {b : Bag} {n m : Nat} (h : b.Ok n) (hm : n ≤ m) : b.Ok m := ⟨h.s0, h.s1, h.c0, Int.le_trans h.c1 (Int.ofNat_le.mpr hm), h.l⟩
def takeF : Fn := { name := "_law_take", ps := ["_law_bag_here", "_law_many"], N := ["_law_bag_here", "_law_many", "_law_begin", "_law_second", "_law_cell", "_law_stirred", "_law_value"], body := (.cons (.cond (.e (.cmp .Eq (.ix (.x 0) (.k (.int 0))) (.k (.int 0)))) (.cons (.set 4 (.ix (.bin .Add (.sl (.ix (.x 0) (.k (.int 3))) (.so (.ix (.x 0) (.k (.int 2)))) .no) (.lst (.cons (.k (.int 0)) .nil))) (.k (.int 0)))) (.cons (.aix 0 (.k (.int 2)) .Add (.k (.int 1))) (.cons (.cond (.e (.cmp .GtE (.x 4) (.bin .Pow (.k (.int 10)) (.k (.int 18))))) (.cons (.six 0 (.k (.int 0)) (.x 4)) .nil) .nil) (.cons (.set 5 (.bin .Add (.bin .Add (.bin .Mult (.ix (.x 0) (.k (.int 1))) (.k (.int 48271))) (.bin .Mod (.fn .int (.cons (.x 4) .nil)) (.k (.int 2147483647)))) (.bin .Mult (.k (.int 7919)) (.ix (.x 0) (.k (.int 2)))))) (.cons (.six 0 (.k (.int 1)) (.bin .Mod (.fn .int (.cons (.x 5) .nil)) (.k (.int 2147483647)))) .nil))))) .nil) (.cons (.cond (.e (.cmp .Gt (.ix (.x 0) (.k (.int 0))) (.k (.int 0)))) (.cons (.set 6 (.bin .Mod (.fn .int (.cons (.ix (.x 0) (.k (.int 0))) .nil)) (.x 1))) (.cons (.six 0 (.k (.int 0)) (.bin .FloorDiv (.fn .int (.cons (.ix (.x 0) (.k (.int 0))) .nil)) (.x 1))) (.cons (.retx 6) .nil))) .nil) (.cons (.set 2 (.bin .Mod (.fn .int (.cons (.bin .Mult (.bin .Add (.ix (.x 0) (.k (.int 1))) (.k (.int 1))) (.k (.int 39373))) .nil)) (.k (.int 1000000007)))) (.cons (.set 3 (.bin .Mod (.fn .int (.cons (.bin .Mult (.bin .Mod (.fn .int (.cons (.bin .Mult (.x 2) (.x 2)) .nil)) (.k (.int 998244353))) (.k (.int 30011))) .nil)) (.k (.int 998244353)))) (.cons (.ret (.bin .Mod (.fn .int (.cons (.bin .FloorDiv (.x 3) (.k (.int 7))) .nil)) (.x 1))) .nil))))) }
theorem cut_0 (xs : List Int) (c : Option Int) : ∃ v : Int, atI (cutL (xs.map PyData.int) c none ++ [.int 0]) 0 = some (.int v) := by
  have e : cutL (xs.map PyData.int) c none = (cutL xs c none).map PyData.int := by
    unfold cutL
    rw [← List.map_drop, ← List.map_take, List.length_map]
  rw [e]
  cases cutL xs c none with
  | nil => exact ⟨0, atI_0 _ _⟩
  | cons v r => exact ⟨v, atI_0 _ _⟩
theorem cut_len {α : Type} (xs : List α) (a b : Option Int) : (cutL xs a b).length ≤ xs.length := by
  unfold cutL
  simp only [List.length_take, List.length_drop]
  omega
theorem ixN3 (n : Nat) (i : Int) (h0 : 0 ≤ i) (h : i < n) : ixN n i = some i.toNat := by
  unfold ixN
  simp [h0, h]
theorem take_run {Γ : Tab} {C : List (Str × PyData)} {FU : Nat} (b : Bag) (m : Int) (n : Nat) (h : b.Ok n) (hn : n ≤ 10 ^ 9) (hm : 0 < m) (hm2 : m.natAbs < 10 ^ 60) :
    ∃ (r : Int) (b' : Bag), runFn Γ C FU takeF [.b b.d, .v (.int m)] = some (.v (.int r), b'.d) ∧ 0 ≤ r ∧ r < m ∧ b'.Ok (n + 1) := by
  obtain ⟨z, s, c, cells⟩ := b
  obtain ⟨s0, s1, c0, c1, l⟩ := h
  simp only at s0 s1 c0 c1 l
  obtain ⟨v, ev⟩ := cut_0 cells (some c)
  have hL : (cutL (cells.map PyData.int) (some c) none).length + 1 ≤ sizeLine := by
    have h1 := cut_len (cells.map PyData.int) (some c) none
    rw [List.length_map] at h1
    have h2 : (64 : Nat) ≤ sizeLine := by decide
    omega
  have x1 : binD .Mult (.int s) (.int 48271) = some (.v (.int (s * 48271))) := mulB (by omega) (by decide)
  have x2 : binD .Mult (.int 7919) (.int (c + 1)) = some (.v (.int (7919 * (c + 1)))) := mulB (by decide) (by omega)
  have x3 (w : Int) : binD .Mod (.int w) (.int 2147483647) = some (.v (.int (w % 2147483647))) := modB (by decide)
  have x4 (w : Int) : binD .Mod (.int w) (.int m) = some (.v (.int (w % m))) := modB hm
  have x5 (w : Int) : binD .FloorDiv (.int w) (.int m) = some (.v (.int (w / m))) := fdivB hm hm2
  have x6 : binD .Pow (.int 10) (.int 18) = some (.v (.int (10 ^ 18))) := rfl
  have x7 : binD .Add (.list (cutL (cells.map PyData.int) (some c) none)) (.list [.int 0]) = some (.o (cutL (cells.map PyData.int) (some c) none ++ [.int 0])) := if_pos hL
  have y1 (w : Int) (h0 : 0 ≤ w) (h1 : w < 2147483647) : binD .Mult (.int (w + 1)) (.int 39373) = some (.v (.int ((w + 1) * 39373))) := mulB (by omega) (by decide)
  have y2 (w : Int) : binD .Mult (.int (w % 1000000007)) (.int (w % 1000000007)) = some (.v (.int ((w % 1000000007) * (w % 1000000007)))) := mulB (by omega) (by omega)
  have y3 (w : Int) : binD .Mult (.int (w % 998244353)) (.int 30011) = some (.v (.int (w % 998244353 * 30011))) := mulB (by omega) (by decide)
  have x8 (w : Int) : binD .Mod (.int w) (.int 1000000007) = some (.v (.int (w % 1000000007))) := modB (by decide)
  have x9 (w : Int) : binD .Mod (.int w) (.int 998244353) = some (.v (.int (w % 998244353))) := modB (by decide)
  have xa (w : Int) : binD .FloorDiv (.int w) (.int 7) = some (.v (.int (w / 7))) := fdivB (by decide) (by decide)
  have i0 (a b c d : PyData) : atI [a, b, c, d] 0 = some a := rfl
  have i1 (a b c d : PyData) : atI [a, b, c, d] 1 = some b := rfl
  have i2 (a b c d : PyData) : atI [a, b, c, d] 2 = some c := rfl
  have i3 (a b c d : PyData) : atI [a, b, c, d] 3 = some d := rfl
  have j0 : ixN 4 0 = some 0 := rfl
  have j1 : ixN 4 1 = some 1 := rfl
  have j2 : ixN 4 2 = some 2 := rfl
  have S1 : (1 : Nat) ≤ sizeLine := by decide
  rw [runFn_eq rfl]
  show ∃ (r : Int) (b' : Bag), (runB Γ C FU takeF.body [some (.b [.int z, .int s, .int c, .list (cells.map .int)]), some (.v (.int m)), none, none, none, none, none]).bind _ = _ ∧ _
  by_cases hz : z = 0
  · subst hz
    by_cases hv : (1000000000000000000 : Int) ≤ v
    · have hv0 : (0 : Int) < v := Int.lt_of_lt_of_le (by decide) hv
      refine ⟨v % m, ⟨v / m, (s * 48271 + v % 2147483647 + 7919 * (c + 1)) % 2147483647, c + 1, cells⟩, ?_, Int.emod_nonneg _ (by omega), Int.emod_lt_of_pos _ hm, ⟨Int.emod_nonneg _ (by decide), Int.emod_lt_of_pos _ (by decide), ?_, ?_, l⟩⟩
      · simp [takeF, runS_aix, runS_six, runS_retx, x1, x2, x3, x4, x5, x6, x7, ev, hv, hv0, i0, i1, i2, i3, j0, j1, j2, S1, Bag.d, outA]
      · show 0 ≤ c + 1
        omega
      · show c + 1 ≤ ((n + 1 : Nat) : Int)
        omega
    · refine ⟨((((s * 48271 + v % 2147483647 + 7919 * (c + 1)) % 2147483647 + 1) * 39373 % 1000000007) * (((s * 48271 + v % 2147483647 + 7919 * (c + 1)) % 2147483647 + 1) * 39373 % 1000000007) % 998244353 * 30011 % 998244353 / 7) % m, ⟨0, (s * 48271 + v % 2147483647 + 7919 * (c + 1)) % 2147483647, c + 1, cells⟩, ?_, Int.emod_nonneg _ (by omega), Int.emod_lt_of_pos _ hm, ⟨Int.emod_nonneg _ (by decide), Int.emod_lt_of_pos _ (by decide), ?_, ?_, l⟩⟩
      · have g1 := y1 ((s * 48271 + v % 2147483647 + 7919 * (c + 1)) % 2147483647) (Int.emod_nonneg _ (by decide)) (Int.emod_lt_of_pos _ (by decide))
        simp [takeF, runS_aix, runS_six, runS_retx, x1, x2, x3, x4, x5, x6, x7, x8, x9, xa, g1, y2, y3, ev, hv, i0, i1, i2, i3, j0, j1, j2, S1, Bag.d, outA]
      · show 0 ≤ c + 1
        omega
      · show c + 1 ≤ ((n + 1 : Nat) : Int)
        omega
  · by_cases hz1 : 0 < z
    · refine ⟨z % m, ⟨z / m, s, c, cells⟩, ?_, Int.emod_nonneg _ (by omega), Int.emod_lt_of_pos _ hm, ⟨s0, s1, c0, by show c ≤ ((n + 1 : Nat) : Int); omega, l⟩⟩
      simp [takeF, runS_aix, runS_six, runS_retx, x4, x5, hz, hz1, i0, i1, i2, i3, j0, j1, j2, S1, Bag.d, outA]
    · refine ⟨(((s + 1) * 39373 % 1000000007) * ((s + 1) * 39373 % 1000000007) % 998244353 * 30011 % 998244353 / 7) % m, ⟨z, s, c, cells⟩, ?_, Int.emod_nonneg _ (by omega), Int.emod_lt_of_pos _ hm, ⟨s0, s1, c0, by show c ≤ ((n + 1 : Nat) : Int); omega, l⟩⟩
      have g1 := y1 s s0 s1
      simp [takeF, runS_aix, runS_six, runS_retx, x4, x5, x8, x9, xa, g1, y2, y3, hz, hz1, i0, i1, i2, i3, j0, j1, j2, S1, Bag.d, outA]
end PF

/-! PF17: loops by what they keep; the other helpers. -/
namespace PF
open PySem L2
theorem forD_keep {body : PyData → En → Option Fl} (I : Nat → En → Prop) : ∀ (ds : List PyData) (k : Nat) (env : En), I k env →
    (∀ i (hi : i < ds.length) e, I (k + i) e → ∃ e', body ds[i] e = some (.nx e') ∧ I (k + i + 1) e') → ∃ e, forD body ds env = some (.nx e) ∧ I (k + ds.length) e
  | [], k, env, h, _ => ⟨env, rfl, h⟩
  | d :: r, k, env, h, H => by
    obtain ⟨e1, h1, h2⟩ := H 0 (by simp) env h
    obtain ⟨e2, h3, h4⟩ := forD_keep I r (k + 1) e1 h2 (fun i hi e he => by
      have := H (i + 1) (by simp; omega) e (by rw [show k + (i + 1) = k + 1 + i by omega]; exact he)
      rw [show k + (i + 1) + 1 = k + 1 + i + 1 by omega] at this
      exact this)
    refine ⟨e2, ?_, by rw [List.length_cons, show k + (r.length + 1) = k + 1 + r.length by omega]; exact h4⟩
    show (body d env).bind _ = _
    rw [show body d env = some (.nx e1) from h1]
    exact h3
theorem forD_rng {body : PyData → En → Option Fl} (I : Nat → En → Prop) (lo : Int) (n : Nat) (env : En) (h : I 0 env)
    (H : ∀ i, i < n → ∀ e, I i e → ∃ e', body (.int (lo + i)) e = some (.nx e') ∧ I (i + 1) e') : ∃ e, forD body (rngD lo n) env = some (.nx e) ∧ I n e := by
  have hl : (rngD lo n).length = n := by simp [rngD]
  obtain ⟨e, h1, h2⟩ := forD_keep I (rngD lo n) 0 env h (fun i hi e he => by
    rw [Nat.zero_add] at he ⊢
    have e1 : (rngD lo n)[i] = .int (lo + i) := by simp [rngD]
    rw [e1]
    exact H i (hl ▸ hi) e he)
  rw [Nat.zero_add, hl] at h2
  exact ⟨e, h1, h2⟩
theorem compD_map {turn : PyData → En → Option (Option PyData × En)} (f : PyData → PyData) (env : En) : ∀ ds : List PyData, (∀ d ∈ ds, turn d env = some (some (f d), env)) → compD turn ds env = some (ds.map f, env)
  | [], _ => rfl
  | d :: r, h => by
    have ih := compD_map f env r (fun x hx => h x (List.mem_cons_of_mem _ hx))
    show (turn d env).bind _ = _
    rw [h d (List.mem_cons_self ..)]
    show (compD turn r env).bind _ = _
    rw [ih]
    rfl
def bagF : Fn := { name := "_law_bag", ps := ["_law_script"], N := ["_law_script", "_law_cell"], body := (.cons (.ret (.lst (.cons (.k (.int 0)) (.cons (.k (.int 1234567891)) (.cons (.k (.int 0)) (.cons (.lc [("_law_cell", 1)] (.n 1) (.e (.sl (.x 0) .no (.so (.k (.int 63))))) .yes (.fn .abs (.cons (.x 1) .nil))) .nil)))))) .nil) }
def absD : PyData → PyData
  | .int i => .int (if i < 0 then -i else i)
  | d => d
def bag0 (ns : List Int) : Bag := ⟨0, 1234567891, 0, ns.map fun i => if i < 0 then -i else i⟩
theorem bag0_ok (ns : List Int) (h : ns.length ≤ 63) : (bag0 ns).Ok 0 := ⟨by simp [bag0], by simp [bag0], by simp [bag0], by simp [bag0], by simpa [bag0] using h⟩
theorem cut_all {α : Type} (xs : List α) (h : xs.length ≤ 63) : cutL xs none (some 63) = xs := by
  have e : HT.sIx xs.length xs.length (some 63) = xs.length := by
    show (if (63 : Int) < 0 then ((63 : Int) + (xs.length : Int)).toNat else min (63 : Int).toNat xs.length) = _
    rw [if_neg (by decide)]
    show min 63 xs.length = _
    omega
  unfold cutL
  rw [e]
  simp [HT.sIx]
theorem bag_run {Γ : Tab} {C : List (Str × PyData)} {FU : Nat} (ns : List Int) (h : ns.length ≤ 63) : runFn Γ C FU bagF [.v (.list (ns.map .int))] = some (.o (bag0 ns).d, []) := by
  rw [runFn_eq rfl]
  show (runB Γ C FU bagF.body [some (.v (.list (ns.map .int))), none]).bind _ = _
  have e1 : cutL (ns.map PyData.int) none (some 63) = ns.map PyData.int := cut_all _ (by simpa using h)
  have e2 : compD (lcTurn Γ C [("_law_cell", 1)] (.n 1) .yes (.fn .abs (.cons (.x 1) .nil))) (ns.map .int) [some (.v (.list (ns.map .int))), none] = some ((ns.map PyData.int).map absD, [some (.v (.list (ns.map .int))), none]) := by
    apply compD_map
    intro d hd
    obtain ⟨i, _, rfl⟩ := List.mem_map.mp hd
    rfl
  have e3 : (ns.map PyData.int).length ≤ sizeLine := by
    rw [List.length_map]
    have : (63 : Nat) ≤ sizeLine := by decide
    omega
  have e4 : (4 : Nat) ≤ sizeLine := by decide
  simp [bagF, runE_lc, noOwn, wipeE, backE, e1]
  erw [e2]
  have e5 : (ns.map PyData.int).map absD = (bag0 ns).cells.map PyData.int := by
    simp [bag0, absD]
  simp only [e5]
  have e6 : (bag0 ns).cells.length ≤ sizeLine := by simpa [bag0] using e3
  simp [e6, e4, outA, Bag.d]
  exact ⟨rfl, rfl, rfl⟩
/-! equal data are alike -/
mutual
theorem short_of_show : ∀ d : PyData, d.showable = true → d.intsShort 1921 = true
  | .none, _ => rfl
  | .bool _, _ => rfl
  | .str _, _ => rfl
  | .dict _, _ => rfl
  | .int i, h => by
    have h1 : i.natAbs.log2 < 1920 := by simpa [PyData.showable] using h
    have h2 : (PyData.shown (.int i)).length ≤ 1921 := PyProof.Rows.int_text_len_1921 h1
    simpa [PyData.intsShort] using h2
  | .list xs, h => by
    have := short_of_showAll xs (by simpa [PyData.showable] using h)
    simpa [PyData.intsShort] using this
  | .tuple xs, h => by
    have := short_of_showAll xs (by simpa [PyData.showable] using h)
    simpa [PyData.intsShort] using this
theorem short_of_showAll : ∀ xs : List PyData, PyData.showableAll xs = true → PyData.intsShortAll 1921 xs = true
  | [], _ => rfl
  | x :: r, h => by
    have h' : x.showable = true ∧ PyData.showableAll r = true := by simpa [PyData.showableAll] using h
    have h1 := short_of_show x h'.1
    have h2 := short_of_showAll r h'.2
    simp [PyData.intsShortAll, h1, h2]
end
theorem ok_app {x y : Str} (h : PyData.strOk x = true) (h' : PyData.strOk y = true) : PyData.strOk (x ++ y) = true := by
  have h : x.cps.all (· < 0x110000) = true := h
  have h' : y.cps.all (· < 0x110000) = true := h'
  show (x.cps ++ y.cps).all (· < 0x110000) = true
  rw [Array.all_append, h, h']
  rfl
theorem ok_join {s : Str} (hs : PyData.strOk s = true) : ∀ ts : List Str, (∀ t ∈ ts, PyData.strOk t = true) → PyData.strOk (Str.join s ts) = true
  | [], _ => by
    have e : Str.join s [] = Str.ofString "" := rfl
    rw [e]
    decide +kernel
  | [x], h => h x (by simp)
  | x :: y :: r, h => by
    have ih := ok_join hs (y :: r) (fun t ht => h t (List.mem_cons_of_mem _ ht))
    show PyData.strOk (x ++ s ++ Str.join s (y :: r)) = true
    exact ok_app (ok_app (h x (by simp)) hs) ih
mutual
def nost : PyData → Bool
  | .none => true
  | .bool _ => true
  | .int _ => true
  | .str s => PyData.strOk (PyData.shown (.str s))
  | .list xs => nostA xs
  | .tuple xs => nostA xs
  | .dict _ => false
def nostA : List PyData → Bool
  | [] => true
  | x :: r => nost x && nostA r
end
theorem ok_int (i : Int) : PyData.strOk (PyData.shown (.int i)) = true := by
  show (Str.ofString (toString i)).cps.all (· < 0x110000) = true
  rw [Str.ofString_eq_toList]
  simp only [List.all_toArray, List.all_map, List.all_eq_true]
  intro c hc
  have := int_ascii i c hc
  simp only [Function.comp, decide_eq_true_eq]
  omega
mutual
theorem ok_show : ∀ d : PyData, nost d = true → PyData.strOk d.shown = true
  | .none, _ => by decide +kernel
  | .bool true, _ => by decide +kernel
  | .bool false, _ => by decide +kernel
  | .int i, _ => ok_int i
  | .str s, h => by
    unfold nost at h
    exact h
  | .list xs, h => by
    rw [PyData.shown_list]
    exact ok_app (ok_app (by decide +kernel) (ok_join (by decide +kernel) _ (ok_showA xs (by simpa [nost] using h)))) (by decide +kernel)
  | .tuple xs, h => by
    rw [PyData.shown_tuple]
    refine ok_app (ok_app (by decide +kernel) (ok_join (by decide +kernel) _ (ok_showA xs (by simpa [nost] using h)))) ?_
    split <;> decide +kernel
theorem ok_showA : ∀ xs : List PyData, nostA xs = true → ∀ t ∈ PyData.shownAll xs, PyData.strOk t = true
  | [], _ => fun t ht => by simp [PyData.shownAll] at ht
  | x :: r, h => by
    have h' : nost x = true ∧ nostA r = true := by simpa [nostA] using h
    intro t ht
    rw [PyData.shownAll_cons] at ht
    rcases List.mem_cons.mp ht with e | e
    · subst e
      exact ok_show x h'.1
    · exact ok_showA r h'.2 t e
end
structure Alk (d : PyData) : Prop where
  lay : d.canLay0 = true
  sh : d.showable = true
  dp : d.depth ≤ 60
  bk : d.bulk ≤ 8000
  ns : nost d = true
def alikeF : Fn := { name := "_law_alike", ps := ["_law_found", "_law_due"], N := ["_law_found", "_law_due"], body := (.cons (.ret (.and (.cmp .Eq (.x 0) (.x 1)) (.cmp .Eq (.fn .repr (.cons (.x 0) .nil)) (.fn .repr (.cons (.x 1) .nil))))) .nil) }
theorem alike_run {Γ : Tab} {C : List (Str × PyData)} {FU : Nat} {d : PyData} (h : Alk d) : runFn Γ C FU alikeF [.v d, .v d] = some (.v (.bool true), []) := by
  have s1 : SeqAt.shaped d = true := by
    have := h.dp
    simp [SeqAt.shaped, h.lay]
    omega
  have e1 : cmpD .Eq d d = some true := by
    rw [eq_any s1 s1, SeqAt.eqv_refl d h.lay]
  have l1 := PyData.shown_le_bulk 1921 (by decide +kernel) d (PyData.leavesShort_of_canLay0 _ d h.lay (short_of_show d h.sh))
  have l2 : d.shown.length ≤ sizeLine := by
    have := h.bk
    have : (16777216 : Nat) = sizeLine := rfl
    omega
  have e2 : fnD .repr [d] = some (.v (.str d.shown)) := if_pos ⟨h.sh, l2, (.inl (PyData.hasDict_of_canLay d h.lay)), h.dp⟩
  have s2 : SeqAt.shaped (.str d.shown) = true := by
    simp [SeqAt.shaped, PyData.canLay0, PyData.depth, ok_show d h.ns]
  have e3 : cmpD .Eq (.str d.shown) (.str d.shown) = some true := by
    rw [eq_any s2 s2]
    simp [PyData.eqv]
  rw [runFn_eq rfl]
  show (runB Γ C FU alikeF.body [some (.v d), some (.v d)]).bind _ = _
  simp [alikeF, e1, e2, e3, outA]
theorem ints_parts : ∀ l : List Int, (∀ i ∈ l, i.natAbs.log2 < 1920) → PyData.canLayAll0 (l.map .int) = true ∧ PyData.showableAll (l.map .int) = true ∧ PyData.depthAll (l.map .int) = 0 ∧ PyData.bulkAll (l.map .int) = l.length ∧ nostA (l.map .int) = true
  | [], _ => ⟨rfl, rfl, rfl, rfl, rfl⟩
  | i :: r, h => by
    obtain ⟨h1, h2, h3, h4, h5⟩ := ints_parts r (fun x hx => h x (List.mem_cons_of_mem _ hx))
    have h0 := h i (by simp)
    simp [PyData.canLayAll0, PyData.canLay0, PyData.showableAll, PyData.showable, PyData.depthAll, PyData.depth, PyData.bulkAll, PyData.bulk, nostA, nost, h0, h1, h2, h3, h4, h5]
    omega
theorem alk_ints (l : List Int) (h : ∀ i ∈ l, i.natAbs.log2 < 1920) (hl : l.length ≤ 4000) : Alk (.list (l.map .int)) := by
  obtain ⟨h1, h2, h3, h4, h5⟩ := ints_parts l h
  exact ⟨by simp [PyData.canLay0, h1], by simp [PyData.showable, h2], by simp [PyData.depth, h3], by simp [PyData.bulk, h4]; omega, by simp [nost, h5]⟩
theorem alk_ints_t (l : List Int) (h : ∀ i ∈ l, i.natAbs.log2 < 1920) (hl : l.length ≤ 4000) : Alk (.tuple (l.map .int)) := by
  obtain ⟨h1, h2, h3, h4, h5⟩ := ints_parts l h
  exact ⟨by simp [PyData.canLay0, h1], by simp [PyData.showable, h2], by simp [PyData.depth, h3], by simp [PyData.bulk, h4]; omega, by simp [nost, h5]⟩
theorem lg_int {i : Int} (h : i.natAbs < 10 ^ 60) : i.natAbs.log2 < 1920 := by
  have h1 : i.natAbs.log2 < 200 := lg (by decide) (Nat.lt_trans h (by decide))
  omega
end PF

/-! PF18: greatest common divisors, fractions in lowest terms. -/
namespace PF
open PySem L2
theorem gcd_loop {c : En → Option (Bool × En)} {body : En → Option Fl} (mk : Int → Int → En) (hc0 : ∀ a, c (mk a 0) = some (false, mk a 0)) (hc : ∀ a b : Int, 0 < b → c (mk a b) = some (true, mk a b))
    (hb : ∀ a b : Int, 0 ≤ a → 0 < b → body (mk a b) = some (.nx (mk b (a % b)))) : ∀ (b a F : Nat), b < F → whileD c body F (mk a b) = some (.nx (mk (Nat.gcd a b) 0)) := by
  intro b
  induction b using Nat.strongRecOn with
  | _ b ih =>
    intro a F hF
    obtain ⟨F, rfl⟩ : ∃ G, F = G + 1 := ⟨F - 1, by omega⟩
    show (c (mk a b)).bind _ = _
    by_cases h0 : b = 0
    · subst h0
      rw [show ((0 : Nat) : Int) = 0 from rfl, hc0, Nat.gcd_zero_right]
      rfl
    · have hp : 0 < b := Nat.pos_of_ne_zero h0
      rw [hc a b (by omega)]
      show (body (mk a b)).bind _ = _
      rw [hb a b (by omega) (by omega)]
      have hl : a % b < b := Nat.mod_lt _ hp
      have e : ((a : Int) % (b : Int)) = ((a % b : Nat) : Int) := rfl
      have g : Nat.gcd a b = Nat.gcd b (a % b) := by
        rw [Nat.gcd_comm a b, Nat.gcd_rec b a, Nat.gcd_comm]
      rw [e, g]
      exact ih (a % b) hl b F (by omega)
theorem posR {g y : Int} (h : 0 < g * y) (hg : 0 < g) : 0 < y := by
  by_cases z : 0 < y
  · exact z
  · have : g * y ≤ g * 0 := Int.mul_le_mul_of_nonneg_left (by omega) (by omega)
    rw [Int.mul_zero] at this
    omega
theorem dvdR {y x v : Int} (h : y ∣ x * v) (c : Int.gcd y x = 1) : y ∣ v := by
  have h1 : y.natAbs ∣ x.natAbs * v.natAbs := by
    rw [← Int.natAbs_mul]
    exact Int.natAbs_dvd_natAbs.mpr h
  exact Int.natAbs_dvd_natAbs.mp (Nat.Coprime.dvd_of_dvd_mul_left c h1)
def redI (n d : Int) : Int × Int := (n.fdiv (if 0 < d then (Int.gcd n d : Int) else -(Int.gcd n d : Int)), d.fdiv (if 0 < d then (Int.gcd n d : Int) else -(Int.gcd n d : Int)))
/-- in lowest terms -/
structure Red (p : Int × Int) : Prop where
  pos : 0 < p.2
  cop : Int.gcd p.1 p.2 = 1
theorem redI_is {n d : Int} (h : d ≠ 0) : ∃ e x y : Int, e ≠ 0 ∧ n = e * x ∧ d = e * y ∧ redI n d = (x, y) ∧ Red (x, y) ∧ e.natAbs = Int.gcd n d ∧ (if 0 < d then (Int.gcd n d : Int) else -(Int.gcd n d : Int)) = e := by
  have hg : (Int.gcd n d : Int) ≠ 0 := by
    intro z
    have := Int.gcd_eq_zero_iff.mp (Int.ofNat.inj z)
    exact h this.2
  obtain ⟨x0, hx⟩ := Int.gcd_dvd_left (a := n) (b := d)
  obtain ⟨y0, hy⟩ := Int.gcd_dvd_right (a := n) (b := d)
  have key : ∀ e x y : Int, e ≠ 0 → e.natAbs = Int.gcd n d → n = e * x → d = e * y → 0 < y → (if 0 < d then (Int.gcd n d : Int) else -(Int.gcd n d : Int)) = e → ∃ e x y : Int, e ≠ 0 ∧ n = e * x ∧ d = e * y ∧ redI n d = (x, y) ∧ Red (x, y) ∧ e.natAbs = Int.gcd n d ∧ (if 0 < d then (Int.gcd n d : Int) else -(Int.gcd n d : Int)) = e := by
    intro e x y he ha h1 h2 h3 h4
    refine ⟨e, x, y, he, h1, h2, ?_, ⟨h3, ?_⟩, ha, h4⟩
    · unfold redI
      rw [h4]
      have a1 : n.fdiv e = x := by
        rw [h1]
        exact Int.mul_fdiv_cancel_left _ he
      have a2 : d.fdiv e = y := by
        rw [h2]
        exact Int.mul_fdiv_cancel_left _ he
      rw [a1, a2]
    · have a1 : Int.gcd n d = e.natAbs * Int.gcd x y := by
        rw [h1, h2, Int.gcd_mul_left]
      rw [← ha] at a1
      have a2 : 0 < e.natAbs := Int.natAbs_pos.mpr he
      exact (Nat.eq_of_mul_eq_mul_left a2 (by omega : e.natAbs * 1 = e.natAbs * Int.gcd x y)).symm
  by_cases hd : 0 < d
  · refine key (Int.gcd n d) x0 y0 hg rfl hx hy ?_ (if_pos hd)
    have g0 : (0 : Int) < Int.gcd n d := by omega
    rw [hy] at hd
    exact posR hd g0
  · refine key (-(Int.gcd n d : Int)) (-x0) (-y0) (by omega) (by omega) (by rw [Int.neg_mul_neg]; exact hx) (by rw [Int.neg_mul_neg]; exact hy) ?_ (if_neg hd)
    have g0 : (0 : Int) < Int.gcd n d := by omega
    have hn : 0 < (Int.gcd n d : Int) * (-y0) := by
      rw [Int.mul_neg, ← hy]
      omega
    exact posR hn g0
theorem red_uniq {p q : Int × Int} (hp : Red p) (hq : Red q) (h : p.1 * q.2 = q.1 * p.2) : p = q := by
  obtain ⟨x, y⟩ := p
  obtain ⟨u, v⟩ := q
  have p0 := hp.pos
  have q0 := hq.pos
  have pc := hp.cop
  have qc := hq.cop
  simp only at *
  have h1 : y ∣ v := by
    have : y ∣ x * v := ⟨u, by rw [h, Int.mul_comm]⟩
    exact dvdR this (by rw [Int.gcd_comm]; exact pc)
  have h2 : v ∣ y := by
    have : v ∣ u * y := ⟨x, by rw [← h, Int.mul_comm]⟩
    exact dvdR this (by rw [Int.gcd_comm]; exact qc)
  have h3 : y = v := Int.le_antisymm (Int.le_of_dvd q0 h1) (Int.le_of_dvd p0 h2)
  subst h3
  have h4 : x = u := Int.eq_of_mul_eq_mul_right (by omega) h
  rw [h4]
theorem red_self {p : Int × Int} (h : Red p) : redI p.1 p.2 = p := by
  unfold redI
  rw [if_pos h.pos, h.cop]
  simp
/-! sizes -/
/-- fewer than k + 1 digits -/
def Bd (k : Nat) (a : Int) : Prop := a.natAbs < 10 ^ k
theorem Bd.mono {k m : Nat} {a : Int} (h : Bd k a) (hm : k ≤ m) : Bd m a := Nat.lt_of_lt_of_le h (Nat.pow_le_pow_right (by decide) hm)
theorem Bd.mul {k m : Nat} {a b : Int} (h : Bd k a) (h' : Bd m b) : Bd (k + m) (a * b) := by
  unfold Bd at *
  rw [Int.natAbs_mul, Nat.pow_add]
  exact Nat.mul_lt_mul_of_lt_of_lt h h'
theorem Bd.add {k : Nat} {a b : Int} (h : Bd k a) (h' : Bd k b) : Bd (k + 1) (a + b) := by
  unfold Bd at *
  rw [Nat.pow_succ]
  generalize 10 ^ k = z at *
  omega
theorem Bd.sub {k : Nat} {a b : Int} (h : Bd k a) (h' : Bd k b) : Bd (k + 1) (a - b) := by
  unfold Bd at *
  rw [Nat.pow_succ]
  generalize 10 ^ k = z at *
  omega
theorem Bd.neg {k : Nat} {a : Int} (h : Bd k a) : Bd k (-a) := by
  unfold Bd at *
  omega
theorem Bd.lg {k : Nat} {a : Int} (h : Bd k a) : a.natAbs.log2 < 4 * k + 1 := by
  have h1 : a.natAbs < 2 ^ (4 * k + 1) := by
    refine Nat.lt_of_lt_of_le h ?_
    rw [Nat.pow_succ, Nat.pow_mul]
    have : (10 : Nat) ^ k ≤ (2 ^ 4) ^ k := Nat.pow_le_pow_left (by decide) k
    omega
  exact PF.lg (Nat.succ_pos _) h1
theorem mulK {k m : Nat} {a b : Int} (h : Bd k a) (h' : Bd m b) (hk : k + m ≤ 100000) : binD .Mult (.int a) (.int b) = some (.v (.int (a * b))) := by
  have h1 := h.lg
  have h2 := h'.lg
  exact if_pos (by omega)
theorem fdivK {k : Nat} {a b : Int} (h : b ≠ 0) (h' : Bd k b) (hk : k ≤ 2000) : binD .FloorDiv (.int a) (.int b) = some (.v (.int (a.fdiv b))) := by
  have h1 := h'.lg
  have h2 : b.natAbs.log2 < 9000 := by omega
  show (if 0 < b ∧ b.natAbs.log2 < 9000 then some (Sl.v (.int (a / b))) else if b ≠ 0 ∧ b.natAbs.log2 < 9000 then some (Sl.v (.int (a.fdiv b))) else none) = _
  by_cases hp : 0 < b
  · rw [if_pos ⟨hp, h2⟩, Int.fdiv_eq_ediv_of_nonneg a (by omega)]
  · rw [if_neg (fun z => hp z.1), if_pos ⟨h, h2⟩]
theorem Bd.fac {k : Nat} {e x : Int} (he : e ≠ 0) (h : Bd k (e * x)) : Bd k x := by
  unfold Bd at *
  rw [Int.natAbs_mul] at h
  have h1 : 0 < e.natAbs := Int.natAbs_pos.mpr he
  have h2 : 1 * x.natAbs ≤ e.natAbs * x.natAbs := Nat.mul_le_mul_right _ h1
  omega
theorem Bd.gcd {k : Nat} {n d : Int} (h : d ≠ 0) (h' : Bd k d) : Bd k (Int.gcd n d) := by
  unfold Bd at *
  have : Int.gcd n d ≤ d.natAbs := Nat.le_of_dvd (Int.natAbs_pos.mpr h) (Nat.gcd_dvd_right _ _)
  omega
def frD (p : Int × Int) : PyData := .tuple [.int p.1, .int p.2]
end PF

/-! PF19: small data (Sm), equality of rows of ints, loops told by their states. -/
namespace PF
open PySem L2
/-! ### a def's run -/
theorem startE_eq (n : Nat) (as : List Sl) : startE n as = as.map some ++ List.replicate (n - as.length) none := rfl
@[simp] theorem outA_nil (e : En) : outA [] e = some [] := rfl
@[simp] theorem outA_v (d : PyData) (r : List Sl) (x : Option Sl) (e : En) : outA (.v d :: r) (x :: e) = outA r e := rfl
@[simp] theorem outA_b (d l : List PyData) (r : List Sl) (e : En) : outA (.b d :: r) (some (.b l) :: e) = some l := rfl
@[simp] theorem wipF_nx (ws : List Nat) (e : En) : wipF ws (.nx e) = .nx (wipeS e ws) := rfl
@[simp] theorem wipF_ct (ws : List Nat) (e : En) : wipF ws (.ct e) = .ct (wipeS e ws) := rfl
@[simp] theorem wipF_bk (ws : List Nat) (e : En) : wipF ws (.bk e) = .bk (wipeS e ws) := rfl
@[simp] theorem wipF_rt (ws : List Nat) (r : Sl) (e : En) : wipF ws (.rt r e) = .rt r e := rfl
@[simp] theorem wipeS_nil (e : En) : wipeS e [] = e := rfl
@[simp] theorem wipeS_cons (e : En) (i : Nat) (r : List Nat) : wipeS e (i :: r) = (wipeS e r).set i none := rfl
mutual
@[simp] theorem eqP_refl : ∀ d : PyData, d.hasDict = false → eqP d d = true
  | .none, _ => rfl
  | .bool b, _ => by simp [eqP]
  | .int i, _ => by simp [eqP]
  | .str i, _ => by simp [eqP]
  | .list xs, h => by simpa [eqP] using eqPs_refl xs (by simpa [PyData.hasDict] using h)
  | .tuple xs, h => by simpa [eqP] using eqPs_refl xs (by simpa [PyData.hasDict] using h)
  | .dict _, h => by simp [PyData.hasDict] at h
theorem eqPs_refl : ∀ xs : List PyData, PyData.hasDictAll xs = false → eqPs xs xs = true
  | [], _ => rfl
  | x :: r, h => by
    have h' : x.hasDict = false ∧ PyData.hasDictAll r = false := by simpa [PyData.hasDictAll] using h
    simp [eqPs, eqP_refl x h'.1, eqPs_refl r h'.2]
end
/-! ### small data: short ints, no texts -/
mutual
def sml : PyData → Bool
  | .none => true
  | .bool _ => true
  | .int i => decide (i.natAbs < 10 ^ 500)
  | .str s => PyData.canLay0 (.str s) && PyData.showable (.str s) && PyData.leavesShort 501 (.str s) && nost (.str s)
  | .list xs => smlA xs
  | .tuple xs => smlA xs
  | .dict _ => false
def smlA : List PyData → Bool
  | [] => true
  | x :: r => sml x && smlA r
end
theorem smlA_iff : ∀ xs : List PyData, smlA xs = true ↔ ∀ x ∈ xs, sml x = true
  | [] => by simp [smlA]
  | x :: r => by simp [smlA, smlA_iff r]
theorem log_sml {i : Int} (h : i.natAbs < 10 ^ 500) : i.natAbs.log2 < 1700 := lg (by decide) (Nat.lt_trans h (by decide))
theorem text_sml {i : Int} (h : i.natAbs < 10 ^ 500) : (PyData.shown (.int i)).length ≤ 501 := by
  have h1 := int_text_length_le10 (k := 500) (by decide) h
  show (Str.ofString (toString i)).length ≤ 501
  rw [Str.ofString_eq_toList]
  show (Array.size _) ≤ 501
  simp only [List.size_toArray, List.length_map]
  have : (toString i).toList.length = (toString i).length := rfl
  omega
mutual
theorem sml_lay : ∀ d : PyData, sml d = true → d.canLay0 = true ∧ d.showable = true ∧ d.leavesShort 501 = true ∧ nost d = true ∧ d.hasDict = false
  | .none, _ => ⟨rfl, rfl, rfl, rfl, rfl⟩
  | .bool _, _ => ⟨rfl, rfl, rfl, rfl, rfl⟩
  | .int i, h => by
    have h : i.natAbs < 10 ^ 500 := by simpa [sml] using h
    have h1 := log_sml h
    have h2 := text_sml h
    refine ⟨rfl, ?_, ?_, rfl, rfl⟩
    · simp [PyData.showable]
      omega
    · simpa [PyData.leavesShort] using h2
  | .str s, h => by
    unfold sml at h
    rw [Bool.and_eq_true, Bool.and_eq_true, Bool.and_eq_true] at h
    exact ⟨h.1.1.1, h.1.1.2, h.1.2, h.2, rfl⟩
  | .dict _, h => by simp [sml] at h
  | .list xs, h => by
    obtain ⟨h1, h2, h3, h4, h5⟩ := smlA_lay xs (by simpa [sml] using h)
    exact ⟨by simpa [PyData.canLay0] using h1, by simpa [PyData.showable] using h2, by simpa [PyData.leavesShort] using h3, by simpa [nost] using h4, by simpa [PyData.hasDict] using h5⟩
  | .tuple xs, h => by
    obtain ⟨h1, h2, h3, h4, h5⟩ := smlA_lay xs (by simpa [sml] using h)
    exact ⟨by simpa [PyData.canLay0] using h1, by simpa [PyData.showable] using h2, by simpa [PyData.leavesShort] using h3, by simpa [nost] using h4, by simpa [PyData.hasDict] using h5⟩
theorem smlA_lay : ∀ xs : List PyData, smlA xs = true → PyData.canLayAll0 xs = true ∧ PyData.showableAll xs = true ∧ PyData.leavesShortAll 501 xs = true ∧ nostA xs = true ∧ PyData.hasDictAll xs = false
  | [], _ => ⟨rfl, rfl, rfl, rfl, rfl⟩
  | x :: r, h => by
    have h' : sml x = true ∧ smlA r = true := by simpa [smlA] using h
    obtain ⟨a1, a2, a3, a4, a5⟩ := sml_lay x h'.1
    obtain ⟨b1, b2, b3, b4, b5⟩ := smlA_lay r h'.2
    simp [PyData.canLayAll0, PyData.showableAll, PyData.leavesShortAll, nostA, PyData.hasDictAll, a1, a2, a3, a4, a5, b1, b2, b3, b4, b5]
end
/-- small: levels, items, short ints -/
structure Sm (k b : Nat) (d : PyData) : Prop where
  s : sml d = true
  k : d.depth ≤ k
  b : d.bulk ≤ b
theorem Sm.mono {k b k' b' : Nat} {d : PyData} (h : Sm k b d) (hk : k ≤ k') (hb : b ≤ b') : Sm k' b' d := ⟨h.s, Nat.le_trans h.k hk, Nat.le_trans h.b hb⟩
theorem Sm.non (k b : Nat) : Sm k b .none := ⟨rfl, Nat.zero_le _, Nat.zero_le _⟩
theorem Sm.bl (k b : Nat) (x : Bool) : Sm k b (.bool x) := ⟨rfl, Nat.zero_le _, Nat.zero_le _⟩
theorem Sm.intB {i : Int} (h : i.natAbs < 10 ^ 500) (k b : Nat) : Sm k b (.int i) := ⟨by simpa [sml] using h, Nat.zero_le _, Nat.zero_le _⟩
theorem Sm.st {s : Str} {b : Nat} (h : sml (.str s) = true) (hb : s.cps.size ≤ b) (k : Nat) : Sm k b (.str s) := ⟨h, Nat.zero_le _, hb⟩
theorem Sm.int {i : Int} (h : i.natAbs < 10 ^ 60) (k b : Nat) : Sm k b (.int i) := ⟨by simpa [sml] using Nat.lt_trans h (by decide), Nat.zero_le _, Nat.zero_le _⟩
theorem depthAll_le {k : Nat} : ∀ xs : List PyData, (∀ x ∈ xs, x.depth ≤ k) → PyData.depthAll xs ≤ k
  | [], _ => by simp [PyData.depthAll]
  | x :: r, h => by
    have h1 := h x (by simp)
    have h2 := depthAll_le r (fun y hy => h y (List.mem_cons_of_mem _ hy))
    simp only [PyData.depthAll]
    omega
theorem bulkAll_le {b : Nat} : ∀ xs : List PyData, (∀ x ∈ xs, x.bulk ≤ b) → PyData.bulkAll xs ≤ xs.length * (b + 1)
  | [], _ => by simp [PyData.bulkAll]
  | x :: r, h => by
    have h1 := h x (by simp)
    have h2 := bulkAll_le r (fun y hy => h y (List.mem_cons_of_mem _ hy))
    simp only [PyData.bulkAll, List.length_cons]
    rw [Nat.add_mul, Nat.one_mul]
    omega
theorem Sm.tup {k b : Nat} {xs : List PyData} (h : ∀ x ∈ xs, Sm k b x) : Sm (k + 1) (xs.length * (b + 1)) (.tuple xs) := by
  refine ⟨?_, ?_, ?_⟩
  · simpa [sml] using (smlA_iff xs).mpr fun x hx => (h x hx).s
  · have := depthAll_le xs fun x hx => (h x hx).k
    simp only [PyData.depth]
    omega
  · simpa [PyData.bulk] using bulkAll_le xs fun x hx => (h x hx).b
theorem Sm.lst {k b : Nat} {xs : List PyData} (h : ∀ x ∈ xs, Sm k b x) : Sm (k + 1) (xs.length * (b + 1)) (.list xs) := by
  obtain ⟨h1, h2, h3⟩ := Sm.tup h
  exact ⟨by simpa [sml] using h1, by simpa only [PyData.depth] using h2, by simpa only [PyData.bulk] using h3⟩
theorem Sm.cl {k b c : Nat} {x : PyData} {xs : List PyData} (h : Sm k b x) (h' : Sm (k + 1) c (.list xs)) : Sm (k + 1) (b + 1 + c) (.list (x :: xs)) := by
  obtain ⟨h1, h2, h3⟩ := h
  obtain ⟨g1, g2, g3⟩ := h'
  simp only [sml, PyData.depth, PyData.bulk] at g1 g2 g3
  refine ⟨by simp [sml, smlA, h1, g1], ?_, ?_⟩
  · simp only [PyData.depth, PyData.depthAll]
    omega
  · simp only [PyData.bulk, PyData.bulkAll]
    omega
theorem Sm.ct {k b c : Nat} {x : PyData} {xs : List PyData} (h : Sm k b x) (h' : Sm (k + 1) c (.tuple xs)) : Sm (k + 1) (b + 1 + c) (.tuple (x :: xs)) := by
  obtain ⟨h1, h2, h3⟩ := h
  obtain ⟨g1, g2, g3⟩ := h'
  simp only [sml, PyData.depth, PyData.bulk] at g1 g2 g3
  refine ⟨by simp [sml, smlA, h1, g1], ?_, ?_⟩
  · simp only [PyData.depth, PyData.depthAll]
    omega
  · simp only [PyData.bulk, PyData.bulkAll]
    omega
theorem Sm.nl (k : Nat) : Sm (k + 1) 0 (.list []) := ⟨rfl, by simp [PyData.depth, PyData.depthAll], by simp [PyData.bulk, PyData.bulkAll]⟩
theorem Sm.nt (k : Nat) : Sm (k + 1) 0 (.tuple []) := ⟨rfl, by simp [PyData.depth, PyData.depthAll], by simp [PyData.bulk, PyData.bulkAll]⟩
theorem Sm.shaped {k b : Nat} {d : PyData} (h : Sm k b d) (hk : k ≤ 60) : SeqAt.shaped d = true := by
  obtain ⟨h1, h2, h3⟩ := h
  simp [SeqAt.shaped, (sml_lay d h1).1]
  omega
/-- two texts are alike: all that the comparison of both readings wants -/
structure Alk2 (d : PyData) : Prop where
  lay : d.canLay0 = true
  sh : d.showable = true
  dp : d.depth ≤ 60
  ln : d.shown.length ≤ sizeLine
  ok : PyData.strOk d.shown = true
theorem Alk2.run {Γ : Tab} {C : List (Str × PyData)} {FU : Nat} {d : PyData} (h : Alk2 d) : runFn Γ C FU alikeF [.v d, .v d] = some (.v (.bool true), []) := by
  have s1 : SeqAt.shaped d = true := by
    have := h.dp
    simp [SeqAt.shaped, h.lay]
    omega
  have e1 : cmpD .Eq d d = some true := by
    rw [eq_any s1 s1, SeqAt.eqv_refl d h.lay]
  have e2 : fnD .repr [d] = some (.v (.str d.shown)) := if_pos ⟨h.sh, h.ln, (.inl (PyData.hasDict_of_canLay d h.lay)), h.dp⟩
  have s2 : SeqAt.shaped (.str d.shown) = true := by
    simp [SeqAt.shaped, PyData.canLay0, PyData.depth, h.ok]
  have e3 : cmpD .Eq (.str d.shown) (.str d.shown) = some true := by
    rw [eq_any s2 s2]
    simp [PyData.eqv]
  rw [runFn_eq rfl]
  show (runB Γ C FU alikeF.body [some (.v d), some (.v d)]).bind _ = _
  simp [alikeF, e1, e2, e3]
/-- one of them lent by the caller -/
theorem Alk2.runb {Γ : Tab} {C : List (Str × PyData)} {FU : Nat} {l : List PyData} (h : Alk2 (.list l)) : runFn Γ C FU alikeF [.b l, .v (.list l)] = some (.v (.bool true), l) := by
  have s1 : SeqAt.shaped (.list l) = true := by
    have := h.dp
    simp [SeqAt.shaped, h.lay]
    omega
  have e1 : cmpD .Eq (.list l) (.list l) = some true := by
    rw [eq_any s1 s1, SeqAt.eqv_refl _ h.lay]
  have e2 : fnD .repr [.list l] = some (.v (.str (PyData.list l).shown)) := if_pos ⟨h.sh, h.ln, (.inl (PyData.hasDict_of_canLay _ h.lay)), h.dp⟩
  have s2 : SeqAt.shaped (.str (PyData.list l).shown) = true := by
    simp [SeqAt.shaped, PyData.canLay0, PyData.depth, h.ok]
  have e3 : cmpD .Eq (.str (PyData.list l).shown) (.str (PyData.list l).shown) = some true := by
    rw [eq_any s2 s2]
    simp [PyData.eqv]
  rw [runFn_eq rfl]
  show (runB Γ C FU alikeF.body [some (.b l), some (.v (.list l))]).bind _ = _
  simp [alikeF, e1, e2, e3]
theorem Alk2.runb2 {Γ : Tab} {C : List (Str × PyData)} {FU : Nat} {l : List PyData} (h : Alk2 (.list l)) : runFn Γ C FU alikeF [.v (.list l), .b l] = some (.v (.bool true), l) := by
  have s1 : SeqAt.shaped (.list l) = true := by
    have := h.dp
    simp [SeqAt.shaped, h.lay]
    omega
  have e1 : cmpD .Eq (.list l) (.list l) = some true := by
    rw [eq_any s1 s1, SeqAt.eqv_refl _ h.lay]
  have e2 : fnD .repr [.list l] = some (.v (.str (PyData.list l).shown)) := if_pos ⟨h.sh, h.ln, (.inl (PyData.hasDict_of_canLay _ h.lay)), h.dp⟩
  have s2 : SeqAt.shaped (.str (PyData.list l).shown) = true := by
    simp [SeqAt.shaped, PyData.canLay0, PyData.depth, h.ok]
  have e3 : cmpD .Eq (.str (PyData.list l).shown) (.str (PyData.list l).shown) = some true := by
    rw [eq_any s2 s2]
    simp [PyData.eqv]
  rw [runFn_eq rfl]
  show (runB Γ C FU alikeF.body [some (.v (.list l)), some (.b l)]).bind _ = _
  simp [alikeF, e1, e2, e3]
theorem Sm.alk {k b : Nat} {d : PyData} (h : Sm k b d) (hk : k ≤ 60) (hb : b ≤ 30000) : Alk2 d := by
  obtain ⟨h1, h2, h3⟩ := h
  obtain ⟨a1, a2, a3, a4, a5⟩ := sml_lay d h1
  refine ⟨a1, a2, by omega, ?_, ok_show d a4⟩
  have := PyData.shown_le_bulk 501 (by decide) d a3
  have : (16777216 : Nat) = sizeLine := rfl
  omega
/-! ### rows of ints -/
theorem ints_sml (l : List Int) (h : ∀ i ∈ l, i.natAbs < 10 ^ 60) (k b : Nat) : ∀ x ∈ l.map PyData.int, Sm k b x := fun x hx => by
  obtain ⟨i, hi, rfl⟩ := List.mem_map.mp hx
  exact Sm.int (h i hi) k b
theorem lay_ints : ∀ l : List Int, PyData.canLayAll0 (l.map .int) = true ∧ PyData.depthAll (l.map .int) = 0
  | [] => ⟨rfl, rfl⟩
  | i :: r => by
    obtain ⟨h1, h2⟩ := lay_ints r
    simp [PyData.canLayAll0, PyData.canLay0, PyData.depthAll, PyData.depth, h1, h2]
theorem eqv_ints : ∀ a b : List Int, PyData.eqvAll (a.map .int) (b.map .int) = decide (a = b)
  | [], [] => rfl
  | [], _ :: _ => rfl
  | _ :: _, [] => rfl
  | x :: r, y :: s => by
    have ih := eqv_ints r s
    simp only [List.map_cons, PyData.eqvAll, PyData.eqv, ih, List.cons.injEq, Bool.decide_and]
    rw [Bool.beq_eq_decide_eq]
theorem shaped_t (a : List Int) : SeqAt.shaped (.tuple (a.map .int)) = true := by
  obtain ⟨h1, h2⟩ := lay_ints a
  simp [SeqAt.shaped, PyData.canLay0, PyData.depth, h1, h2]
theorem shaped_l (a : List Int) : SeqAt.shaped (.list (a.map .int)) = true := by
  obtain ⟨h1, h2⟩ := lay_ints a
  simp [SeqAt.shaped, PyData.canLay0, PyData.depth, h1, h2]
theorem eq_tints (a b : List Int) : cmpD .Eq (.tuple (a.map .int)) (.tuple (b.map .int)) = some (decide (a = b)) := by
  rw [eq_any (shaped_t a) (shaped_t b)]
  simp only [PyData.eqv, eqv_ints]
theorem ne_tints (a b : List Int) : cmpD .NotEq (.tuple (a.map .int)) (.tuple (b.map .int)) = some (!decide (a = b)) := by
  rw [ne_any (shaped_t a) (shaped_t b)]
  simp only [PyData.eqv, eqv_ints]
theorem eq_lints (a b : List Int) : cmpD .Eq (.list (a.map .int)) (.list (b.map .int)) = some (decide (a = b)) := by
  rw [eq_any (shaped_l a) (shaped_l b)]
  simp only [PyData.eqv, eqv_ints]
theorem ne_lints (a b : List Int) : cmpD .NotEq (.list (a.map .int)) (.list (b.map .int)) = some (!decide (a = b)) := by
  rw [ne_any (shaped_l a) (shaped_l b)]
  simp only [PyData.eqv, eqv_ints]
theorem cut_map {α β : Type} (f : α → β) (xs : List α) (lo hi : Option Int) : cutL (xs.map f) lo hi = (cutL xs lo hi).map f := by
  unfold cutL
  rw [← List.map_drop, ← List.map_take, List.length_map]
theorem intsD_map (l : List Int) : intsD (l.map .int) = some l := by
  induction l with
  | nil => rfl
  | cons i r ih => simp [intsD, ih]
theorem boolsD_map (l : List Bool) : boolsD (l.map .bool) = some l := by
  induction l with
  | nil => rfl
  | cons i r ih => simp [boolsD, ih]
theorem atI_map {α β : Type} (f : α → β) (xs : List α) (i : Int) : atI (xs.map f) i = (atI xs i).map f := by
  unfold atI
  rw [List.length_map]
  cases ixN xs.length i with
  | none => rfl
  | some j => simp
theorem cut_hi {α : Type} (xs : List α) (k : Nat) : cutL xs none (some (k : Int)) = xs.take k := by
  unfold cutL HT.sIx
  simp only [show ¬ ((k : Int) < 0) by omega, if_false, Int.toNat_natCast, Nat.sub_zero, List.drop_zero]
  rcases Nat.le_total k xs.length with h | h
  · rw [Nat.min_eq_left h]
  · rw [Nat.min_eq_right h, List.take_of_length_le (Nat.le_refl _), List.take_of_length_le h]
theorem cut_lo {α : Type} (xs : List α) (k : Nat) : cutL xs (some (k : Int)) none = xs.drop k := by
  unfold cutL HT.sIx
  simp only [show ¬ ((k : Int) < 0) by omega, if_false, Int.toNat_natCast]
  rcases Nat.le_total k xs.length with h | h
  · rw [Nat.min_eq_left h, List.take_of_length_le (by rw [List.length_drop]; exact Nat.le_refl _)]
  · rw [Nat.min_eq_right h, Nat.sub_self, List.take_zero, List.drop_eq_nil_of_le h]
theorem cut_lohi {α : Type} (xs : List α) (a b : Nat) : cutL xs (some (a : Int)) (some (b : Int)) = (xs.drop a).take (b - a) := by
  unfold cutL HT.sIx
  simp only [show ¬ ((a : Int) < 0) by omega, show ¬ ((b : Int) < 0) by omega, if_false, Int.toNat_natCast]
  rcases Nat.le_total a xs.length with h | h
  · rw [Nat.min_eq_left h]
    rcases Nat.le_total b xs.length with h2 | h2
    · rw [Nat.min_eq_left h2]
    · rw [Nat.min_eq_right h2, List.take_of_length_le (by rw [List.length_drop]; exact Nat.le_refl _), List.take_of_length_le (by rw [List.length_drop]; omega)]
  · rw [Nat.min_eq_right h, List.drop_length, List.drop_eq_nil_of_le h, List.take_nil, List.take_nil]
/-! ### loops by their states -/
theorem forD_fold {α σ : Type} {body : PyData → En → Option Fl} (mk : σ → En) (f : α → PyData) (step : σ → α → σ) (P : σ → List α → Prop) : ∀ (xs : List α) (s : σ), P s xs → (∀ s x r, P s (x :: r) → body (f x) (mk s) = some (.nx (mk (step s x))) ∧ P (step s x) r) →
    forD body (xs.map f) (mk s) = some (.nx (mk (xs.foldl step s)))
  | [], s, _, _ => rfl
  | x :: r, s, hp, h => by
    obtain ⟨h1, h2⟩ := h s x r hp
    show (body (f x) (mk s)).bind _ = _
    rw [h1]
    exact forD_fold mk f step P r (step s x) h2 h
theorem whileD_inv {σ : Type} {c : En → Option (Bool × En)} {body : En → Option Fl} (mk : σ → En) (I : σ → Prop) (t : σ → Bool) (step : σ → σ) (μ : σ → Nat) (hc : ∀ s, I s → c (mk s) = some (t s, mk s))
    (hb : ∀ s, I s → t s = true → body (mk s) = some (.nx (mk (step s))) ∧ I (step s) ∧ μ (step s) < μ s) : ∀ (n : Nat) (s : σ), I s → μ s < n → ∃ s', whileD c body n (mk s) = some (.nx (mk s')) ∧ I s' ∧ t s' = false := by
  intro n
  induction n with
  | zero => intro s _ h; omega
  | succ n ih =>
    intro s hs hm
    cases ht : t s with
    | false =>
      refine ⟨s, ?_, hs, ht⟩
      show (c (mk s)).bind _ = _
      rw [hc s hs, ht]
      rfl
    | true =>
      obtain ⟨h1, h2, h3⟩ := hb s hs ht
      obtain ⟨s', e, i, t'⟩ := ih (step s) h2 (by omega)
      refine ⟨s', ?_, i, t'⟩
      show (c (mk s)).bind _ = _
      rw [hc s hs, ht]
      show (body (mk s)).bind _ = _
      rw [h1]
      exact e
theorem compD_mapF {α : Type} {turn : PyData → En → Option (Option PyData × En)} (f : α → PyData) (g : α → PyData) (env : En) (xs : List α) (h : ∀ x ∈ xs, turn (f x) env = some (some (g x), env)) : compD turn (xs.map f) env = some (xs.map g, env) := by
  induction xs with
  | nil => rfl
  | cons x r ih =>
    show (turn (f x) env).bind _ = _
    rw [h x (by simp)]
    show (compD turn (r.map f) env).bind _ = _
    rw [ih fun y hy => h y (List.mem_cons_of_mem _ hy)]
    rfl
theorem compD_filt {α : Type} {turn : PyData → En → Option (Option PyData × En)} (f : α → PyData) (p : α → Bool) (g : α → PyData) (env : En) (xs : List α) (h : ∀ x ∈ xs, turn (f x) env = some (if p x = true then some (g x) else none, env)) : compD turn (xs.map f) env = some ((xs.filter p).map g, env) := by
  induction xs with
  | nil => rfl
  | cons x r ih =>
    show (turn (f x) env).bind _ = _
    rw [h x (by simp)]
    have e := ih fun y hy => h y (List.mem_cons_of_mem _ hy)
    cases hp : p x with
    | true =>
      simp only [if_true, Option.bind_some, e, List.filter_cons, hp, List.map_cons]
    | false =>
      simp only [Bool.false_eq_true, if_false, Option.bind_some, e, List.filter_cons, hp]
theorem rngD_map (lo : Int) (n : Nat) : rngD lo n = (List.range n).map fun (i : Nat) => PyData.int (lo + i) := rfl
@[simp] theorem le11 : (11 : Nat) ≤ sizeLine := by decide
@[simp] theorem le12 : (12 : Nat) ≤ sizeLine := by decide
@[simp] theorem le13 : (13 : Nat) ≤ sizeLine := by decide
@[simp] theorem le14 : (14 : Nat) ≤ sizeLine := by decide
@[simp] theorem le15 : (15 : Nat) ≤ sizeLine := by decide
@[simp] theorem le16 : (16 : Nat) ≤ sizeLine := by decide
@[simp] theorem le17 : (17 : Nat) ≤ sizeLine := by decide
@[simp] theorem le18 : (18 : Nat) ≤ sizeLine := by decide
@[simp] theorem le19 : (19 : Nat) ≤ sizeLine := by decide
@[simp] theorem le20 : (20 : Nat) ≤ sizeLine := by decide
@[simp] theorem le21 : (21 : Nat) ≤ sizeLine := by decide
@[simp] theorem le22 : (22 : Nat) ≤ sizeLine := by decide
@[simp] theorem le23 : (23 : Nat) ≤ sizeLine := by decide
@[simp] theorem le24 : (24 : Nat) ≤ sizeLine := by decide
@[simp] theorem le25 : (25 : Nat) ≤ sizeLine := by decide
@[simp] theorem le26 : (26 : Nat) ≤ sizeLine := by decide
@[simp] theorem le27 : (27 : Nat) ≤ sizeLine := by decide
@[simp] theorem le28 : (28 : Nat) ≤ sizeLine := by decide
@[simp] theorem le29 : (29 : Nat) ≤ sizeLine := by decide
@[simp] theorem le30 : (30 : Nat) ≤ sizeLine := by decide
@[simp] theorem le31 : (31 : Nat) ≤ sizeLine := by decide
@[simp] theorem le32 : (32 : Nat) ≤ sizeLine := by decide
theorem line_is : sizeLine = 16777216 := rfl
/-! ### items by written places -/
@[simp] theorem at_i0 {α : Type} (a : α) (r : List α) : atI (a :: r) 0 = some a := atI_nat (j := 0) rfl
@[simp] theorem at_i1 {α : Type} (a b : α) (r : List α) : atI (a :: b :: r) 1 = some b := atI_nat (j := 1) rfl
@[simp] theorem at_i2 {α : Type} (a b c : α) (r : List α) : atI (a :: b :: c :: r) 2 = some c := atI_nat (j := 2) rfl
@[simp] theorem at_i3 {α : Type} (a b c d : α) (r : List α) : atI (a :: b :: c :: d :: r) 3 = some d := atI_nat (j := 3) rfl
@[simp] theorem at_i4 {α : Type} (a b c d e : α) (r : List α) : atI (a :: b :: c :: d :: e :: r) 4 = some e := atI_nat (j := 4) rfl
@[simp] theorem at_i5 {α : Type} (a b c d e f : α) (r : List α) : atI (a :: b :: c :: d :: e :: f :: r) 5 = some f := atI_nat (j := 5) rfl
@[simp] theorem at_i6 {α : Type} (a b c d e f g : α) (r : List α) : atI (a :: b :: c :: d :: e :: f :: g :: r) 6 = some g := atI_nat (j := 6) rfl
theorem at_n {α : Type} {xs : List α} {i : Int} {j : Nat} {x : α} (hi : i = j) (h : xs[j]? = some x) : atI xs i = some x := by
  subst hi
  exact atI_nat h
theorem rep_t (x : PyData) (k : Nat) (hk : k ≤ 1000000) : binD .Mult (.tuple [x]) (.int k) = some (.v (.tuple (List.replicate k x))) := by
  have e : (List.replicate ((k : Int)).toNat [x]).flatten = List.replicate k x := by
    rw [Int.toNat_natCast]
    clear hk
    induction k with
    | zero => rfl
    | succ k ih => rw [List.replicate_succ, List.flatten_cons, ih, List.replicate_succ]; rfl
  have c : (k : Int).natAbs.log2 < 60 ∧ [x].length * ((k : Int)).toNat ≤ 1000000 := by
    refine ⟨?_, ?_⟩
    · by_cases z : (k : Int).natAbs = 0
      · rw [z]; decide
      · exact (Nat.log2_lt z).mpr (by omega)
    · rw [List.length_singleton, Int.toNat_natCast, Nat.one_mul]
      exact hk
  simp only [binD, if_pos c, e]
theorem rep_l (x : PyData) (k : Nat) (hk : k ≤ sizeLine) : binD .Mult (.list [x]) (.int k) = some (.o (List.replicate k x)) := by
  have e : (List.replicate ((k : Int)).toNat [x]).flatten = List.replicate k x := by
    rw [Int.toNat_natCast]
    clear hk
    induction k with
    | zero => rfl
    | succ k ih => rw [List.replicate_succ, List.flatten_cons, ih, List.replicate_succ]; rfl
  have z := line_is
  have c : (k : Int).natAbs.log2 < 62 ∧ [x].length * ((k : Int)).toNat ≤ sizeLine := by
    refine ⟨Nat.lt_of_lt_of_le (log_of (by omega) (by omega)) (by decide), ?_⟩
    rw [List.length_singleton, Int.toNat_natCast, Nat.one_mul]
    exact hk
  simp only [binD, if_pos c, e]
@[simp high] theorem le0 : (0 : Nat) < sizeLine := by decide
@[simp high] theorem le1 : (1 : Nat) ≤ sizeLine := by decide
@[simp] theorem le2 : (2 : Nat) ≤ sizeLine := by decide
@[simp] theorem le3 : (3 : Nat) ≤ sizeLine := by decide
@[simp] theorem le4 : (4 : Nat) ≤ sizeLine := by decide
@[simp] theorem le5 : (5 : Nat) ≤ sizeLine := by decide
@[simp] theorem le6 : (6 : Nat) ≤ sizeLine := by decide
@[simp] theorem le7 : (7 : Nat) ≤ sizeLine := by decide
@[simp] theorem le8 : (8 : Nat) ≤ sizeLine := by decide
@[simp] theorem le9 : (9 : Nat) ≤ sizeLine := by decide
@[simp] theorem le10 : (10 : Nat) ≤ sizeLine := by decide
theorem whileD_ex {σ : Type} {c : En → Option (Bool × En)} {body : En → Option Fl} (mk : σ → En) (I : σ → Prop) (t : σ → Bool) (μ : σ → Nat) (hc : ∀ s, I s → c (mk s) = some (t s, mk s))
    (hb : ∀ s, I s → t s = true → ∃ s', body (mk s) = some (.nx (mk s')) ∧ I s' ∧ μ s' < μ s) : ∀ (n : Nat) (s : σ), I s → μ s < n → ∃ s', whileD c body n (mk s) = some (.nx (mk s')) ∧ I s' ∧ t s' = false := by
  intro n
  induction n with
  | zero => intro s _ h; omega
  | succ n ih =>
    intro s hs hm
    cases ht : t s with
    | false =>
      refine ⟨s, ?_, hs, ht⟩
      show (c (mk s)).bind _ = _
      rw [hc s hs, ht]
      rfl
    | true =>
      obtain ⟨s1, h1, h2, h3⟩ := hb s hs ht
      obtain ⟨s', e, i, t'⟩ := ih s1 h2 (by omega)
      refine ⟨s', ?_, i, t'⟩
      show (c (mk s)).bind _ = _
      rw [hc s hs, ht]
      show (body (mk s)).bind _ = _
      rw [h1]
      exact e
/-! ### fractions -/
@[simp] theorem fr_i0 (p : Int × Int) : ixD (frD p) (.int 0) = some (.int p.1) := rfl
@[simp] theorem fr_i1 (p : Int × Int) : ixD (frD p) (.int 1) = some (.int p.2) := rfl
/-- the size of a fraction's two numbers -/
structure Bf (k : Nat) (p : Int × Int) : Prop where
  a : Bd k p.1
  b : Bd k p.2
theorem Bf.mono {k m : Nat} {p : Int × Int} (h : Bf k p) (hm : k ≤ m) : Bf m p := ⟨h.a.mono hm, h.b.mono hm⟩
theorem bf_red {k : Nat} {a b : Int} (hb : b ≠ 0) (h : Bd k a) (h' : Bd k b) : Bf k (redI a b) := by
  obtain ⟨e, x, y, he, h1, h2, h3, _⟩ := redI_is (n := a) hb
  rw [h3]
  rw [h1] at h
  rw [h2] at h'
  exact ⟨h.fac he, h'.fac he⟩
theorem red_red {a b : Int} (hb : b ≠ 0) : Red (redI a b) := by
  obtain ⟨e, x, y, he, h1, h2, h3, h4, _⟩ := redI_is (n := a) hb
  rw [h3]
  exact h4
theorem red_cross {a b : Int} (hb : b ≠ 0) : (redI a b).1 * b = a * (redI a b).2 := by
  obtain ⟨e, x, y, he, h1, h2, h3, _⟩ := redI_is (n := a) hb
  rw [h3, h1, h2]
  show x * (e * y) = e * x * y
  rw [← Int.mul_assoc, Int.mul_comm x e]
theorem ne_mul {a b : Int} (ha : 0 < a) (hb : 0 < b) : a * b ≠ 0 := by
  have := Int.mul_pos ha hb
  omega
def addI (p q : Int × Int) : Int × Int := redI (p.1 * q.2 + q.1 * p.2) (p.2 * q.2)
def subI (p q : Int × Int) : Int × Int := redI (p.1 * q.2 - q.1 * p.2) (p.2 * q.2)
def mulF (p q : Int × Int) : Int × Int := redI (p.1 * q.1) (p.2 * q.2)
def divF (p q : Int × Int) : Int × Int := redI (p.1 * q.2) (p.2 * q.1)
def cmpF (p q : Int × Int) : Int := if q.1 * p.2 < p.1 * q.2 then 1 else if p.1 * q.2 < q.1 * p.2 then -1 else 0
/-- a fraction: reduced, of so many digits -/
structure Fr (k : Nat) (p : Int × Int) : Prop where
  r : Red p
  b : Bf k p
theorem Fr.mono {k m : Nat} {p : Int × Int} (h : Fr k p) (hm : k ≤ m) : Fr m p := ⟨h.r, h.b.mono hm⟩
theorem Fr.pos {k : Nat} {p : Int × Int} (h : Fr k p) : 0 < p.2 := h.r.pos
theorem Fr.red {k : Nat} {a b : Int} (hb : b ≠ 0) (h : Bd k a) (h' : Bd k b) : Fr k (redI a b) := ⟨red_red hb, bf_red hb h h'⟩
theorem Fr.add {k m : Nat} {p q : Int × Int} (h : Fr k p) (h' : Fr m q) : Fr (k + m + 1) (addI p q) :=
  .red (ne_mul h.pos h'.pos) (Bd.add (h.b.a.mul h'.b.b) (by rw [Nat.add_comm]; exact h'.b.a.mul h.b.b)) ((h.b.b.mul h'.b.b).mono (by omega))
theorem Fr.sub {k m : Nat} {p q : Int × Int} (h : Fr k p) (h' : Fr m q) : Fr (k + m + 1) (subI p q) :=
  .red (ne_mul h.pos h'.pos) (Bd.sub (h.b.a.mul h'.b.b) (by rw [Nat.add_comm]; exact h'.b.a.mul h.b.b)) ((h.b.b.mul h'.b.b).mono (by omega))
theorem Fr.mul {k m : Nat} {p q : Int × Int} (h : Fr k p) (h' : Fr m q) : Fr (k + m) (mulF p q) :=
  .red (ne_mul h.pos h'.pos) (h.b.a.mul h'.b.a) (h.b.b.mul h'.b.b)
theorem Fr.sm {k : Nat} {p : Int × Int} (h : Fr k p) (hk : k ≤ 500) : Sm 1 2 (frD p) :=
  Sm.tup (k := 0) (b := 0) (xs := [.int p.1, .int p.2]) (fun x hx => by
    simp only [List.mem_cons, List.not_mem_nil, or_false] at hx
    rcases hx with rfl | rfl
    · exact Sm.intB (h.b.a.mono hk) 0 0
    · exact Sm.intB (h.b.b.mono hk) 0 0)
theorem shaped_fr (p : Int × Int) : SeqAt.shaped (frD p) = true := by
  simp [frD, SeqAt.shaped, PyData.canLay0, PyData.canLayAll0, PyData.depth, PyData.depthAll]
theorem eq_fr (p q : Int × Int) : cmpD .Eq (frD p) (frD q) = some (decide (p = q)) := by
  obtain ⟨a, b⟩ := p
  obtain ⟨c, d⟩ := q
  rw [eq_any (shaped_fr _) (shaped_fr _)]
  simp [frD, PyData.eqv, PyData.eqvAll, Bool.beq_eq_decide_eq]
theorem cmpF_le {p q : Int × Int} : cmpF p q ≤ 0 ↔ p.1 * q.2 ≤ q.1 * p.2 := by
  unfold cmpF
  split
  · omega
  · split <;> omega
theorem cmpF_lt {p q : Int × Int} : cmpF p q < 0 ↔ p.1 * q.2 < q.1 * p.2 := by
  unfold cmpF
  split
  · omega
  · split <;> omega
theorem cmpF_gt {p q : Int × Int} : 0 < cmpF p q ↔ q.1 * p.2 < p.1 * q.2 := by
  unfold cmpF
  split
  · omega
  · split <;> omega
/-- less or alike, by integers -/
def leF (p q : Int × Int) : Prop := p.1 * q.2 ≤ q.1 * p.2
theorem leF_trans {p q r : Int × Int} (hp : 0 < p.2) (hq : 0 < q.2) (hr : 0 < r.2) (h : leF p q) (h' : leF q r) : leF p r := by
  unfold leF at *
  have h1 : p.1 * q.2 * r.2 ≤ q.1 * p.2 * r.2 := Int.mul_le_mul_of_nonneg_right h (by omega)
  have h2 : q.1 * r.2 * p.2 ≤ r.1 * q.2 * p.2 := Int.mul_le_mul_of_nonneg_right h' (by omega)
  have h3 : (p.1 * r.2) * q.2 ≤ (r.1 * p.2) * q.2 := by
    have e1 : (p.1 * r.2) * q.2 = p.1 * q.2 * r.2 := by rw [Int.mul_assoc, Int.mul_comm r.2, ← Int.mul_assoc]
    have e2 : (r.1 * p.2) * q.2 = r.1 * q.2 * p.2 := by rw [Int.mul_assoc, Int.mul_comm p.2, ← Int.mul_assoc]
    have e3 : q.1 * p.2 * r.2 = q.1 * r.2 * p.2 := by rw [Int.mul_assoc, Int.mul_comm p.2, ← Int.mul_assoc]
    omega
  exact Int.le_of_mul_le_mul_right h3 hq
theorem leF_total (p q : Int × Int) : leF p q ∨ leF q p := by
  unfold leF
  omega
theorem leF_anti {p q : Int × Int} (hp : Red p) (hq : Red q) (h : leF p q) (h' : leF q p) : p = q := red_uniq hp hq (by unfold leF at *; omega)
theorem repr_ok {d : PyData} (h : Alk2 d) : fnD .repr [d] = some (.v (.str d.shown)) := if_pos ⟨h.sh, h.ln, (.inl (PyData.hasDict_of_canLay d h.lay)), h.dp⟩
theorem shown_ne {d : PyData} (h : Alk2 d) : cmpD .NotEq (.str d.shown) (.str d.shown) = some false := by
  have s2 : SeqAt.shaped (.str d.shown) = true := by
    simp [SeqAt.shaped, PyData.canLay0, PyData.depth, h.ok]
  rw [ne_any s2 s2]
  simp [PyData.eqv]
theorem compD_keep {turn : PyData → En → Option (Option PyData × En)} (I : Nat → En → Prop) (P : PyData → Prop) : ∀ (ds : List PyData) (k : Nat) (env : En), I k env →
    (∀ i (hi : i < ds.length) e, I (k + i) e → ∃ y e', turn ds[i] e = some (some y, e') ∧ P y ∧ I (k + i + 1) e') → ∃ ys e, compD turn ds env = some (ys, e) ∧ (∀ y ∈ ys, P y) ∧ ys.length = ds.length ∧ I (k + ds.length) e
  | [], k, env, h, _ => ⟨[], env, rfl, by simp, rfl, h⟩
  | d :: r, k, env, h, H => by
    obtain ⟨y, e1, h1, hy, h2⟩ := H 0 (by simp) env h
    obtain ⟨ys, e2, h3, h4, h5, h6⟩ := compD_keep I P r (k + 1) e1 h2 (fun i hi e he => by
      have := H (i + 1) (by simp; omega) e (by rw [show k + (i + 1) = k + 1 + i by omega]; exact he)
      rw [show k + (i + 1) + 1 = k + 1 + i + 1 by omega] at this
      exact this)
    refine ⟨y :: ys, e2, ?_, ?_, by simp [h5], by rw [List.length_cons, show k + (r.length + 1) = k + 1 + r.length by omega]; exact h6⟩
    · show (turn d env).bind _ = _
      rw [show turn d env = some (some y, e1) from h1]
      show (compD turn r e1).bind _ = _
      rw [h3]
      rfl
    · intro z hz
      rcases List.mem_cons.mp hz with rfl | hz
      · exact hy
      · exact h4 z hz
theorem zipD_map {α β : Type} (f : α → PyData) (g : β → PyData) : ∀ (xs : List α) (ys : List β), zipD (xs.map f) (ys.map g) = (xs.zip ys).map fun p => .tuple [f p.1, g p.2]
  | [], ys => by simp [zipD]
  | x :: r, [] => by simp [zipD]
  | x :: r, y :: s => by simp [zipD, zipD_map f g r s]
/-! ### ascending by integers -/
def insF (p : Int × Int) : List (Int × Int) → List (Int × Int)
  | [] => [p]
  | x :: r => if x.1 * p.2 ≤ p.1 * x.2 then x :: insF p r else p :: x :: r
def ordF (ps : List (Int × Int)) : List (Int × Int) := ps.foldl (fun l p => insF p l) []
theorem insF_mem (p : Int × Int) : ∀ (l : List (Int × Int)) (x : Int × Int), x ∈ insF p l ↔ x = p ∨ x ∈ l
  | [], x => by simp [insF]
  | y :: r, x => by
    unfold insF
    split
    · simp only [List.mem_cons, insF_mem p r x]
      constructor
      · rintro (h | h | h) <;> simp [h]
      · rintro (h | h | h) <;> simp [h]
    · simp only [List.mem_cons]
theorem insF_len (p : Int × Int) : ∀ l : List (Int × Int), (insF p l).length = l.length + 1
  | [] => rfl
  | y :: r => by
    unfold insF
    split
    · simp [insF_len p r]
    · simp
theorem insF_sorted {p : Int × Int} (hp : 0 < p.2) : ∀ l : List (Int × Int), (∀ x ∈ l, 0 < x.2) → l.Pairwise leF → (insF p l).Pairwise leF
  | [], _, _ => by simp [insF]
  | y :: r, hl, h => by
    rw [List.pairwise_cons] at h
    have hy := hl y (by simp)
    unfold insF
    split
    · rename_i hc
      refine List.pairwise_cons.mpr ⟨fun z hz => ?_, insF_sorted hp r (fun x hx => hl x (List.mem_cons_of_mem _ hx)) h.2⟩
      rcases (insF_mem p r z).mp hz with rfl | hz
      · exact hc
      · exact h.1 z hz
    · rename_i hc
      have hpy : leF p y := (leF_total p y).resolve_right fun z => hc z
      refine List.pairwise_cons.mpr ⟨fun z hz => ?_, List.pairwise_cons.mpr h⟩
      rcases List.mem_cons.mp hz with rfl | hz
      · exact hpy
      · exact leF_trans hp hy (hl z (List.mem_cons_of_mem _ hz)) hpy (h.1 z hz)
/-- the place told by counting -/
theorem insF_at {p : Int × Int} (hp : 0 < p.2) : ∀ l : List (Int × Int), (∀ x ∈ l, 0 < x.2) → l.Pairwise leF →
    l.take (l.filter fun x => decide (x.1 * p.2 - p.1 * x.2 ≤ 0)).length ++ p :: l.drop (l.filter fun x => decide (x.1 * p.2 - p.1 * x.2 ≤ 0)).length = insF p l
  | [], _, _ => rfl
  | y :: r, hl, h => by
    rw [List.pairwise_cons] at h
    have hy := hl y (by simp)
    by_cases hc : y.1 * p.2 ≤ p.1 * y.2
    · have hc2 : y.1 * p.2 - p.1 * y.2 ≤ 0 := by omega
      have ih := insF_at hp r (fun x hx => hl x (List.mem_cons_of_mem _ hx)) h.2
      simp only [List.filter_cons, hc2, decide_true, if_true, List.length_cons, List.take_succ_cons, List.drop_succ_cons, List.cons_append, insF, hc, ih]
    · have hc2 : ¬ y.1 * p.2 - p.1 * y.2 ≤ 0 := by omega
      have hn : (r.filter fun x => decide (x.1 * p.2 - p.1 * x.2 ≤ 0)) = [] := by
        rw [List.filter_eq_nil_iff]
        intro z hz hd
        have hd : z.1 * p.2 - p.1 * z.2 ≤ 0 := of_decide_eq_true hd
        have hyz := h.1 z hz
        have hzp : leF z p := by unfold leF; omega
        have := leF_trans hy (hl z (List.mem_cons_of_mem _ hz)) hp hyz hzp
        exact hc this
      simp only [List.filter_cons, hc2, decide_false, Bool.false_eq_true, if_false, hn, List.length_nil, List.take_zero, List.drop_zero, List.nil_append, insF, hc]
theorem ordF_all {ps : List (Int × Int)} (h : ∀ x ∈ ps, 0 < x.2) : (∀ x, x ∈ ordF ps ↔ x ∈ ps) ∧ (ordF ps).length = ps.length ∧ (ordF ps).Pairwise leF := by
  have key : ∀ (ps l : List (Int × Int)), (∀ x ∈ ps, 0 < x.2) → (∀ x ∈ l, 0 < x.2) → l.Pairwise leF → (∀ x, x ∈ ps.foldl (fun l p => insF p l) l ↔ x ∈ l ∨ x ∈ ps) ∧ (ps.foldl (fun l p => insF p l) l).length = l.length + ps.length ∧ (ps.foldl (fun l p => insF p l) l).Pairwise leF := by
    intro ps
    induction ps with
    | nil => intro l _ _ hl; exact ⟨by simp, by simp, hl⟩
    | cons p r ih =>
      intro l h1 h2 h3
      have hp := h1 p (by simp)
      obtain ⟨a, b, c⟩ := ih (insF p l) (fun x hx => h1 x (List.mem_cons_of_mem _ hx)) (fun x hx => by
        rcases (insF_mem p l x).mp hx with rfl | hx
        · exact hp
        · exact h2 x hx) (insF_sorted hp l h2 h3)
      refine ⟨fun x => ?_, by rw [List.foldl_cons, b, insF_len, List.length_cons]; omega, c⟩
      rw [List.foldl_cons, a x, insF_mem, List.mem_cons]
      constructor
      · rintro ((h | h) | h) <;> simp [h]
      · rintro (h | h | h) <;> simp [h]
  obtain ⟨a, b, c⟩ := key ps [] h (by simp) .nil
  exact ⟨fun x => by rw [ordF, a x]; simp, by rw [ordF, b]; simp, c⟩
end PF

/-! PF20: fractions with one denominator: integers (qF D x is x by D). -/
namespace PF
open PySem L2
def qF (D x : Int) : Int × Int := redI x D
section
variable {D E x y : Int}
theorem qF_red (hD : 0 < D) (x : Int) : Red (qF D x) := red_red (by omega)
theorem qF_pos (hD : 0 < D) (x : Int) : 0 < (qF D x).2 := (qF_red hD x).pos
theorem qF_cross (hD : 0 < D) (x : Int) : (qF D x).1 * D = x * (qF D x).2 := red_cross (by omega)
theorem qF_eq (hD : 0 < D) {p : Int × Int} (hp : Red p) (h : p.1 * D = x * p.2) : p = qF D x := by
  refine red_uniq hp (qF_red hD x) ?_
  have h2 := qF_cross hD x
  apply Int.eq_of_mul_eq_mul_right (show D ≠ 0 by omega)
  calc p.1 * (qF D x).2 * D = (p.1 * D) * (qF D x).2 := by ac_rfl
    _ = x * p.2 * (qF D x).2 := by rw [h]
    _ = (x * (qF D x).2) * p.2 := by ac_rfl
    _ = (qF D x).1 * D * p.2 := by rw [h2]
    _ = (qF D x).1 * p.2 * D := by ac_rfl
theorem redI_q (hE : 0 < E) (hD : 0 < D) {N : Int} (h : N * D = x * E) : redI N E = qF D x := by
  have hn : E ≠ 0 := by omega
  refine qF_eq hD (red_red hn) ?_
  have c := red_cross (a := N) hn
  apply Int.eq_of_mul_eq_mul_right hn
  calc (redI N E).1 * D * E = ((redI N E).1 * E) * D := by ac_rfl
    _ = N * (redI N E).2 * D := by rw [c]
    _ = (N * D) * (redI N E).2 := by ac_rfl
    _ = x * E * (redI N E).2 := by rw [h]
    _ = x * (redI N E).2 * E := by ac_rfl
theorem qF_add (hD : 0 < D) (x y : Int) : addI (qF D x) (qF D y) = qF D (x + y) := by
  have hx := qF_cross hD x
  have hy := qF_cross hD y
  refine redI_q (Int.mul_pos (qF_pos hD x) (qF_pos hD y)) hD ?_
  calc ((qF D x).1 * (qF D y).2 + (qF D y).1 * (qF D x).2) * D = ((qF D x).1 * D) * (qF D y).2 + ((qF D y).1 * D) * (qF D x).2 := by
        rw [Int.add_mul]
        congr 1 <;> ac_rfl
    _ = x * (qF D x).2 * (qF D y).2 + y * (qF D y).2 * (qF D x).2 := by rw [hx, hy]
    _ = (x + y) * ((qF D x).2 * (qF D y).2) := by
        rw [Int.add_mul]
        congr 1 <;> ac_rfl
theorem qF_sub (hD : 0 < D) (x y : Int) : subI (qF D x) (qF D y) = qF D (x - y) := by
  have hx := qF_cross hD x
  have hy := qF_cross hD y
  refine redI_q (Int.mul_pos (qF_pos hD x) (qF_pos hD y)) hD ?_
  calc ((qF D x).1 * (qF D y).2 - (qF D y).1 * (qF D x).2) * D = ((qF D x).1 * D) * (qF D y).2 - ((qF D y).1 * D) * (qF D x).2 := by
        rw [Int.sub_mul]
        congr 1 <;> ac_rfl
    _ = x * (qF D x).2 * (qF D y).2 - y * (qF D y).2 * (qF D x).2 := by rw [hx, hy]
    _ = (x - y) * ((qF D x).2 * (qF D y).2) := by
        rw [Int.sub_mul]
        congr 1 <;> ac_rfl
theorem qF_mul (hD : 0 < D) (hE : 0 < E) (x y : Int) : mulF (qF D x) (qF E y) = qF (D * E) (x * y) := by
  have hx := qF_cross hD x
  have hy := qF_cross hE y
  refine redI_q (Int.mul_pos (qF_pos hD x) (qF_pos hE y)) (Int.mul_pos hD hE) ?_
  calc ((qF D x).1 * (qF E y).1) * (D * E) = ((qF D x).1 * D) * ((qF E y).1 * E) := by ac_rfl
    _ = x * (qF D x).2 * (y * (qF E y).2) := by rw [hx, hy]
    _ = (x * y) * ((qF D x).2 * (qF E y).2) := by ac_rfl
theorem qF_scale (hD : 0 < D) {c : Int} (hc : 0 < c) (x : Int) : qF (D * c) (x * c) = qF D x := by
  refine redI_q (Int.mul_pos hD hc) hD ?_
  ac_rfl
theorem qF_neg (hD : 0 < D) (x : Int) : (-(qF D x).1, (qF D x).2) = qF D (-x) := by
  have h := qF_red hD x
  have hx := qF_cross hD x
  refine qF_eq hD ⟨h.pos, by simpa using h.cop⟩ ?_
  show -(qF D x).1 * D = -x * (qF D x).2
  rw [Int.neg_mul, hx, Int.neg_mul]
theorem qF_diff (hD : 0 < D) (x y : Int) : ((qF D x).1 * (qF D y).2 - (qF D y).1 * (qF D x).2) * D = (x - y) * ((qF D x).2 * (qF D y).2) := by
  have hx := qF_cross hD x
  have hy := qF_cross hD y
  calc ((qF D x).1 * (qF D y).2 - (qF D y).1 * (qF D x).2) * D = ((qF D x).1 * D) * (qF D y).2 - ((qF D y).1 * D) * (qF D x).2 := by
        rw [Int.sub_mul]
        congr 1 <;> ac_rfl
    _ = x * (qF D x).2 * (qF D y).2 - y * (qF D y).2 * (qF D x).2 := by rw [hx, hy]
    _ = (x - y) * ((qF D x).2 * (qF D y).2) := by
        rw [Int.sub_mul]
        congr 1 <;> ac_rfl
theorem qF_lt (hD : 0 < D) (x y : Int) : (qF D x).1 * (qF D y).2 - (qF D y).1 * (qF D x).2 < 0 ↔ x < y := by
  have h := qF_diff hD x y
  have hp := Int.mul_pos (qF_pos hD x) (qF_pos hD y)
  constructor
  · intro h1
    have h2 := Int.mul_neg_of_neg_of_pos h1 hD
    rw [h] at h2
    have := Int.neg_of_mul_neg_left h2 (by omega)
    omega
  · intro h1
    have h2 := Int.mul_neg_of_neg_of_pos (show x - y < 0 by omega) hp
    rw [← h] at h2
    exact Int.neg_of_mul_neg_left h2 (by omega)
theorem qF_le (hD : 0 < D) (x y : Int) : (qF D x).1 * (qF D y).2 - (qF D y).1 * (qF D x).2 ≤ 0 ↔ x ≤ y := by
  have := qF_lt hD y x
  omega
theorem qF_ge (hD : 0 < D) (x y : Int) : 0 ≤ (qF D x).1 * (qF D y).2 - (qF D y).1 * (qF D x).2 ↔ y ≤ x := by
  have := qF_lt hD x y
  omega
theorem qF_inj (hD : 0 < D) (x y : Int) : qF D x = qF D y ↔ x = y := by
  constructor
  · intro h
    have h1 := qF_le hD x y
    have h2 := qF_le hD y x
    rw [h] at h1 h2
    omega
  · rintro rfl
    rfl
theorem qF_cmp (hD : 0 < D) (x y : Int) : cmpF (qF D x) (qF D y) = if y < x then 1 else if x < y then -1 else 0 := by
  have h1 := qF_lt hD x y
  have h2 := qF_lt hD y x
  unfold cmpF
  by_cases a : y < x
  · rw [if_pos a, if_pos (by omega)]
  · rw [if_neg a, if_neg (by omega)]
    by_cases b : x < y
    · rw [if_pos b, if_pos (by omega)]
    · rw [if_neg b, if_neg (by omega)]
theorem qF_fr {k : Nat} (hD : 0 < D) (hx : Bd k x) (hE : Bd k D) : Fr k (qF D x) := .red (by omega) hx hE
theorem qF_fin {k : Nat} {p : Int × Int} (h : Fr k p) : p = qF p.2 p.1 := (red_self h.r).symm
theorem qF_one (hD : 0 < D) (c : Int) : qF D (c * D) = (c, 1) := by
  have h1 : Red (c, 1) := ⟨show (0 : Int) < 1 by decide, by simp⟩
  exact (qF_eq hD h1 (by simp)).symm
end
end PF

/-! PF21: running sums. -/
namespace PF
open PySem L2
def mom : Int → List Int → List Int
  | m, [] => [m]
  | m, x :: r => m :: mom (m + x) r
def csum : Nat → List Nat → List Nat
  | m, [] => [m]
  | m, x :: r => m :: csum (m + x) r
theorem mom_len : ∀ (xs : List Int) (m : Int), (mom m xs).length = xs.length + 1
  | [], _ => rfl
  | x :: r, m => by simp [mom, mom_len r]
theorem mom_get : ∀ (xs : List Int) (m : Int) (i : Nat), i ≤ xs.length → (mom m xs)[i]? = some (m + (xs.take i).sum)
  | [], m, i, h => by
    obtain rfl : i = 0 := by simpa using h
    simp [mom]
  | x :: r, m, 0, _ => by simp [mom]
  | x :: r, m, i + 1, h => by
    have := mom_get r (m + x) i (by simpa using h)
    simp only [mom, List.getElem?_cons_succ, this, List.take_succ_cons, List.sum_cons]
    congr 1
    omega
theorem mom_getD (xs : List Int) (m : Int) (i : Nat) (h : i ≤ xs.length) : (mom m xs).getD i 0 = m + (xs.take i).sum := by
  rw [List.getD_eq_getElem?_getD, mom_get xs m i h]
  rfl
theorem csum_len : ∀ (xs : List Nat) (m : Nat), (csum m xs).length = xs.length + 1
  | [], _ => rfl
  | x :: r, m => by simp [csum, csum_len r]
theorem csum_le : ∀ (xs : List Nat) (m : Nat), ∀ c ∈ csum m xs, m ≤ c ∧ c ≤ m + xs.sum
  | [], m, c, h => by
    simp [csum] at h
    simp [h]
  | x :: r, m, c, h => by
    simp only [csum, List.mem_cons] at h
    simp only [List.sum_cons]
    rcases h with rfl | h
    · omega
    · have := csum_le r (m + x) c h
      omega
theorem csum_get : ∀ (xs : List Nat) (m : Nat) (i : Nat), i ≤ xs.length → (csum m xs)[i]? = some (m + (xs.take i).sum)
  | [], m, i, h => by
    obtain rfl : i = 0 := by simpa using h
    simp [csum]
  | x :: r, m, 0, _ => by simp [csum]
  | x :: r, m, i + 1, h => by
    have := csum_get r (m + x) i (by simpa using h)
    simp only [csum, List.getElem?_cons_succ, this, List.take_succ_cons, List.sum_cons]
    congr 1
    omega
theorem isum_app (a b : List Int) : (a ++ b).sum = a.sum + b.sum := by
  induction a with
  | nil => simp
  | cons x r ih => simp [ih]; omega
theorem isum_rev (a : List Int) : a.reverse.sum = a.sum := by
  induction a with
  | nil => rfl
  | cons x r ih => simp [isum_app, ih]; omega
theorem isum_td (a : List Int) (i : Nat) : (a.take i).sum + (a.drop i).sum = a.sum := by
  rw [← isum_app, List.take_append_drop]
theorem nsum_app (a b : List Nat) : (a ++ b).sum = a.sum + b.sum := by
  induction a with
  | nil => simp
  | cons x r ih => simp [ih]; omega
theorem nsum_rev (a : List Nat) : a.reverse.sum = a.sum := by
  induction a with
  | nil => rfl
  | cons x r ih => simp [nsum_app, ih]; omega
theorem nsum_td (a : List Nat) (i : Nat) : (a.take i).sum + (a.drop i).sum = a.sum := by
  rw [← nsum_app, List.take_append_drop]
theorem take_rev_sum (a : List Int) (i : Nat) : (a.reverse.take i).sum = a.sum - (a.take (a.length - i)).sum := by
  have h := isum_td a (a.length - i)
  rw [List.take_reverse, isum_rev]
  omega
theorem take_rev_nsum (a : List Nat) (i : Nat) : (a.reverse.take i).sum = a.sum - (a.take (a.length - i)).sum := by
  have h := nsum_td a (a.length - i)
  rw [List.take_reverse, nsum_rev]
  omega
/-- the moments of a reel that runs backward -/
theorem mom_back (t : Int) (xs : List Int) : mom (-(t + xs.sum)) xs.reverse = (mom t xs).reverse.map fun m => -m := by
  apply List.ext_getElem?
  intro i
  by_cases h : i ≤ xs.length
  · rw [mom_get _ _ _ (by rw [List.length_reverse]; exact h), List.getElem?_map, List.getElem?_reverse (by rw [mom_len]; omega), mom_len, mom_get _ _ _ (by omega), take_rev_sum]
    simp only [Option.map_some]
    congr 1
    rw [show xs.length + 1 - 1 - i = xs.length - i by omega]
    omega
  · rw [List.getElem?_eq_none (by rw [mom_len, List.length_reverse]; omega), List.getElem?_eq_none (by rw [List.length_map, List.length_reverse, mom_len]; omega)]
/-- the moments of marks -/
def marksL (t : Int) (xs : List Int) (rs : List Nat) : List Int := (csum 0 rs).map fun c => (mom t xs).getD c 0
theorem marks_back (t : Int) (xs : List Int) (rs : List Nat) (h : rs.sum = xs.length) : marksL (-(t + xs.sum)) xs.reverse rs.reverse = (marksL t xs rs).reverse.map fun m => -m := by
  apply List.ext_getElem?
  intro i
  by_cases hi : i ≤ rs.length
  · have e1 := nsum_td rs (rs.length - i)
    have h1 : (rs.take (rs.length - i)).sum ≤ xs.length := by omega
    have h2 : (rs.reverse.take i).sum ≤ xs.length := by
      rw [take_rev_nsum]
      omega
    unfold marksL
    rw [List.getElem?_map, csum_get _ _ _ (by rw [List.length_reverse]; exact hi), List.getElem?_map, List.getElem?_reverse (by rw [List.length_map, csum_len]; omega), List.length_map, csum_len, List.getElem?_map, csum_get _ _ _ (by omega)]
    simp only [Option.map_some]
    congr 1
    rw [show rs.length + 1 - 1 - i = rs.length - i by omega, Nat.zero_add, Nat.zero_add, mom_getD _ _ _ (by rw [List.length_reverse]; exact h2), mom_getD _ _ _ h1, take_rev_sum, take_rev_nsum]
    rw [show xs.length - (rs.sum - (rs.take (rs.length - i)).sum) = (rs.take (rs.length - i)).sum by omega]
    omega
  · unfold marksL
    rw [List.getElem?_eq_none (by rw [List.length_map, csum_len, List.length_reverse]; omega), List.getElem?_eq_none (by rw [List.length_map, List.length_reverse, List.length_map, csum_len]; omega)]
theorem mom_bd {xs : List Int} {t : Int} {C : Nat} (h : ∀ x ∈ xs, x.natAbs ≤ C) : ∀ y ∈ mom t xs, y.natAbs ≤ t.natAbs + C * xs.length := by
  induction xs generalizing t with
  | nil => intro y hy; simp [mom] at hy; simp [hy]
  | cons x r ih =>
    intro y hy
    simp only [mom, List.mem_cons] at hy
    have hx := h x (by simp)
    simp only [List.length_cons]
    rw [Nat.mul_add]
    rcases hy with rfl | hy
    · omega
    · have := ih (t := t + x) (fun z hz => h z (List.mem_cons_of_mem _ hz)) y hy
      omega
end PF

set_option maxHeartbeats 4000000
/-! PF22: repr of dicts of small data. -/
namespace PF
open PySem L2
/-- a dict whose keys and values are small, no list in it -/
structure SmK (k b : Nat) (kvs : List (PyData × PyData)) : Prop where
  s : ∀ p ∈ kvs, sml p.1 = true ∧ sml p.2 = true ∧ nol p.2 = true
  d : ∀ p ∈ kvs, p.1.depth ≤ k ∧ p.2.depth ≤ k
  b : ∀ p ∈ kvs, p.1.bulk ≤ b ∧ p.2.bulk ≤ b
  q : fnQ kvs = false
theorem kv_sml : ∀ kvs : List (PyData × PyData), (∀ p ∈ kvs, sml p.1 = true ∧ sml p.2 = true ∧ nol p.2 = true) →
    PyData.showableKv kvs = true ∧ PyData.leavesShortKv 501 kvs = true ∧ nolK kvs = true ∧ ∀ t ∈ PyData.shownKv kvs, PyData.strOk t = true
  | [], _ => ⟨rfl, rfl, rfl, fun t h => by simp [PyData.shownKv] at h⟩
  | (x, y) :: r, h => by
    obtain ⟨h1, h2, h3⟩ := h (x, y) (by simp)
    obtain ⟨i1, i2, i3, i4⟩ := kv_sml r fun p hp => h p (List.mem_cons_of_mem _ hp)
    obtain ⟨_, a1, a2, a3, _⟩ := sml_lay x h1
    obtain ⟨_, b1, b2, b3, _⟩ := sml_lay y h2
    refine ⟨by simp [PyData.showableKv, a1, b1, i1], by simp [PyData.leavesShortKv, a2, b2, i2], by simp only [nolK, Bool.and_eq_true]; exact ⟨h3, i3⟩, fun t ht => ?_⟩
    rw [PyData.shownKv_cons] at ht
    rcases List.mem_cons.mp ht with e | e
    · subst e
      exact ok_app (ok_app (ok_show x a3) (by decide +kernel)) (ok_show y b3)
    · exact i4 t e
theorem kv_depth {k : Nat} : ∀ kvs : List (PyData × PyData), (∀ p ∈ kvs, p.1.depth ≤ k ∧ p.2.depth ≤ k) → PyData.depthKv kvs ≤ k
  | [], _ => Nat.zero_le _
  | (x, y) :: r, h => by
    have h1 := h (x, y) (by simp)
    have h2 := kv_depth r fun p hp => h p (List.mem_cons_of_mem _ hp)
    show max (max x.depth y.depth) (PyData.depthKv r) ≤ k
    have h3 : x.depth ≤ k ∧ y.depth ≤ k := h1
    omega
theorem kv_bulk {b : Nat} : ∀ kvs : List (PyData × PyData), (∀ p ∈ kvs, p.1.bulk ≤ b ∧ p.2.bulk ≤ b) → PyData.bulkKv kvs ≤ kvs.length * (2 * b + 2)
  | [], _ => Nat.zero_le _
  | (x, y) :: r, h => by
    have h1 : x.bulk ≤ b ∧ y.bulk ≤ b := h (x, y) (by simp)
    have h2 := kv_bulk r fun p hp => h p (List.mem_cons_of_mem _ hp)
    show x.bulk + y.bulk + 2 + PyData.bulkKv r ≤ (r.length + 1) * (2 * b + 2)
    rw [Nat.add_mul]
    omega
theorem SmK.repr {k b : Nat} {kvs : List (PyData × PyData)} (h : SmK k b kvs) (hk : k ≤ 50) (hb : kvs.length * (2 * b + 2) ≤ 30000) : ∃ s : Str, fnD .repr [.dict kvs] = some (.v (.str s)) ∧ cmpD .NotEq (.str s) (.str s) = some false ∧ cmpD .Eq (.str s) (.str s) = some true := by
  obtain ⟨h1, h2, h3, h4⟩ := kv_sml kvs h.s
  have h5 := kv_depth kvs h.d
  have h6 := kv_bulk kvs h.b
  have ok : PyData.strOk (PyData.dict kvs).shown = true := by
    rw [PyData.shown_dict]
    exact ok_app (ok_app (by decide +kernel) (ok_join (by decide +kernel) _ h4)) (by decide +kernel)
  have ln : (PyData.dict kvs).shown.length ≤ sizeLine := by
    have := PyData.shown_le_bulk 501 (by decide) (.dict kvs) (by simpa [PyData.leavesShort] using h2)
    have e : (PyData.dict kvs).bulk = PyData.bulkKv kvs := by simp [PyData.bulk]
    rw [e] at this
    rw [line_is]
    omega
  have s2 : SeqAt.shaped (.str (PyData.dict kvs).shown) = true := by
    simp [SeqAt.shaped, PyData.canLay0, PyData.depth, ok]
  refine ⟨(PyData.dict kvs).shown, if_pos ⟨by simpa [PyData.showable] using h1, ln, .inr (by simpa [nol, h.q] using h3), ?_⟩, ?_, ?_⟩
  · rw [ne_any s2 s2]
    simp [PyData.eqv]
  · rw [eq_any s2 s2]
    simp [PyData.eqv]
  · show PyData.depthKv kvs + 1 ≤ 60
    omega
/-! ### several values, starred -/
theorem getD_mapd : ∀ xs : List PyData, getD (xs.map Hd.d) = some xs
  | [] => rfl
  | x :: r => by
    show (getD (r.map Hd.d)).bind _ = _
    rw [getD_mapd r]
    rfl
theorem getD_app2 (xs ys : List PyData) : getD (xs.map Hd.d ++ ys.map Hd.d) = some (xs ++ ys) := by
  rw [← List.map_append, getD_mapd]
/-! ### sorted -/
theorem insS_map {α β : Type} (f : α → β) (lt : α → α → Bool) (lt' : β → β → Bool) (h : ∀ a b, lt' (f a) (f b) = lt a b) (x : α) : ∀ l : List α, insS lt' (f x) (l.map f) = (insS lt x l).map f
  | [] => rfl
  | y :: r => by
    rw [List.map_cons]
    unfold insS
    rw [h, insS_map f lt lt' h x r]
    split <;> rfl
theorem sortS_map {α β : Type} (f : α → β) (lt : α → α → Bool) (lt' : β → β → Bool) (h : ∀ a b, lt' (f a) (f b) = lt a b) : ∀ l : List α, sortS lt' (l.map f) = (sortS lt l).map f
  | [] => rfl
  | x :: r => by
    show insS lt' (f x) (sortS lt' (r.map f)) = _
    rw [sortS_map f lt lt' h r, insS_map f lt lt' h]
    rfl
/-! ### dicts without doubles -/
theorem mergeD_fresh : ∀ (more kvs : List (PyData × PyData)), (∀ p ∈ more, ∃ k, keyD p.1 = some k) → ((kvs ++ more).map fun p => keyD p.1).Nodup → mergeD kvs more = kvs ++ more
  | [], kvs, _, _ => (List.append_nil kvs).symm
  | (a, b) :: r, kvs, h, hn => by
    obtain ⟨k, hk⟩ := h (a, b) (by simp)
    have hk : keyD a = some k := hk
    have e : mergeD kvs ((a, b) :: r) = mergeD (dput kvs a k b) r := by
      unfold mergeD
      rw [List.foldl_cons]
      show List.foldl _ (match keyD a with
        | some k => dput kvs a k b
        | none => kvs) r = _
      rw [hk]
    have nk : ¬ (kvs.any fun p => decide (keyD p.1 = some k)) = true := by
      intro z
      obtain ⟨p, hp, e2⟩ := List.any_eq_true.mp z
      have e2 := of_decide_eq_true e2
      rw [List.map_append, List.nodup_append] at hn
      exact hn.2.2 (keyD p.1) (List.mem_map.mpr ⟨p, hp, rfl⟩) (keyD a) (by simp) (by rw [e2, hk])
    have e3 : dput kvs a k b = kvs ++ [(a, b)] := by
      unfold dput
      rw [if_neg nk]
    rw [e, e3, mergeD_fresh r (kvs ++ [(a, b)]) (fun p hp => h p (List.mem_cons_of_mem _ hp)) (by simpa using hn)]
    simp
end PF

namespace Lk04
open PySem PySem.Spec PyProof.Rows L2 PF
def topS (i : Nat) : Stmt := PySem.Challenge.pw_flutterheld_k04_rows_cell_by_cell.main.body.getD i (.Pass ⟨0, 0, 0, 0⟩)
/-- cells_of -/
def qb0_0 : IB := (.cons (.ex (.mt .append 1 (.cons (.bin .Add (.ix (.x 1) (.neg (.k (.int 1)))) (.x 2)) .nil))) .nil)
def qb0 : IB := (.cons (.set 1 (.lst (.cons (.k (.int 0)) .nil))) (.cons (.for (.n 2) (.e (.x 0)) qb0_0 [0, 2]) (.cons (.ret (.fn .tuple (.cons (.x 1) .nil))) .nil)))
def qd0 : Fn := { name := "cells_of", ps := ["row"], N := ["row", "found", "run"], body := qb0 }
/-- length_of -/
def qb1 : IB := (.cons (.ret (.fn .sum (.cons (.x 0) .nil))) .nil)
def qd1 : Fn := { name := "length_of", ps := ["row"], N := ["row"], body := qb1 }
/-- mirrored -/
def qb2 : IB := (.cons (.ret (.rv (.x 0))) .nil)
def qd2 : Fn := { name := "mirrored", ps := ["row"], N := ["row"], body := qb2 }
/-- distances_of -/
def qb3 : IB := (.cons (.ret (.sl (.call 0 (.cons (.call 2 (.cons (.x 0) .nil)) .nil)) (.so (.k (.int 1))) .no)) .nil)
def qd3 : Fn := { name := "distances_of", ps := ["row"], N := ["row"], body := qb3 }
/-- rows_over -/
def qb4_0 : IB := (.cons (.ex (.mt .extend 4 (.cons (.lc [("row", 6)] (.n 6) (.e (.ix (.x 2) (.bin .Sub (.x 3) (.x 5)))) .yes (.tup (.cons (.x 5) (.star (.x 6) .nil)))) .nil))) .nil)
def qb4_1 : IB := (.cons (.set 4 (.lst .nil)) (.cons (.for (.n 5) (.r2 (.ix (.x 0) (.k (.int 3))) (.bin .Add (.fn .min2 (.cons (.ix (.x 0) (.k (.int 4))) (.cons (.x 3) .nil))) (.k (.int 1)))) qb4_0 [5, 6]) (.cons (.ex (.mt .append 2 (.cons (.x 4) .nil))) .nil)))
def qb4 : IB := (.cons (.set 2 (.lst (.cons (.lst (.cons (.tup .nil) .nil)) .nil))) (.cons (.for (.n 3) (.r2 (.k (.int 1)) (.bin .Add (.x 1) (.k (.int 1)))) qb4_1 [3, 4, 5, 6]) (.cons (.ret (.ix (.x 2) (.x 1))) .nil)))
def qd4 : Fn := { name := "rows_over", ps := ["bounds", "cells"], N := ["bounds", "cells", "found", "many", "some", "run", "row"], body := qb4, thaw := true }
/-- _law_bag -/
def qb5 : IB := (.cons (.ret (.lst (.cons (.k (.int 0)) (.cons (.k (.int 1234567891)) (.cons (.k (.int 0)) (.cons (.lc [("_law_cell", 1)] (.n 1) (.e (.sl (.x 0) .no (.so (.k (.int 63))))) .yes (.fn .abs (.cons (.x 1) .nil))) .nil)))))) .nil)
def qd5 : Fn := { name := "_law_bag", ps := ["_law_script"], N := ["_law_script", "_law_cell"], body := qb5 }
/-- _law_take -/
def qb6 : IB := (.cons (.cond (.e (.cmp .Eq (.ix (.x 0) (.k (.int 0))) (.k (.int 0)))) (.cons (.set 4 (.ix (.bin .Add (.sl (.ix (.x 0) (.k (.int 3))) (.so (.ix (.x 0) (.k (.int 2)))) .no) (.lst (.cons (.k (.int 0)) .nil))) (.k (.int 0)))) (.cons (.aix 0 (.k (.int 2)) .Add (.k (.int 1))) (.cons (.cond (.e (.cmp .GtE (.x 4) (.bin .Pow (.k (.int 10)) (.k (.int 18))))) (.cons (.six 0 (.k (.int 0)) (.x 4)) .nil) .nil) (.cons (.set 5 (.bin .Add (.bin .Add (.bin .Mult (.ix (.x 0) (.k (.int 1))) (.k (.int 48271))) (.bin .Mod (.fn .int (.cons (.x 4) .nil)) (.k (.int 2147483647)))) (.bin .Mult (.k (.int 7919)) (.ix (.x 0) (.k (.int 2)))))) (.cons (.six 0 (.k (.int 1)) (.bin .Mod (.fn .int (.cons (.x 5) .nil)) (.k (.int 2147483647)))) .nil))))) .nil) (.cons (.cond (.e (.cmp .Gt (.ix (.x 0) (.k (.int 0))) (.k (.int 0)))) (.cons (.set 6 (.bin .Mod (.fn .int (.cons (.ix (.x 0) (.k (.int 0))) .nil)) (.x 1))) (.cons (.six 0 (.k (.int 0)) (.bin .FloorDiv (.fn .int (.cons (.ix (.x 0) (.k (.int 0))) .nil)) (.x 1))) (.cons (.retx 6) .nil))) .nil) (.cons (.set 2 (.bin .Mod (.fn .int (.cons (.bin .Mult (.bin .Add (.ix (.x 0) (.k (.int 1))) (.k (.int 1))) (.k (.int 39373))) .nil)) (.k (.int 1000000007)))) (.cons (.set 3 (.bin .Mod (.fn .int (.cons (.bin .Mult (.bin .Mod (.fn .int (.cons (.bin .Mult (.x 2) (.x 2)) .nil)) (.k (.int 998244353))) (.k (.int 30011))) .nil)) (.k (.int 998244353)))) (.cons (.ret (.bin .Mod (.fn .int (.cons (.bin .FloorDiv (.x 3) (.k (.int 7))) .nil)) (.x 1))) .nil)))))
def qd6 : Fn := { name := "_law_take", ps := ["_law_bag_here", "_law_many"], N := ["_law_bag_here", "_law_many", "_law_begin", "_law_second", "_law_cell", "_law_stirred", "_law_value"], body := qb6 }
/-- _law_some -/
def qb7 : IB := (.cons (.ret (.ix (.x 1) (.call 6 (.io 0 (.cons (.fn .len (.cons (.x 1) .nil)) .nil))))) .nil)
def qd7 : Fn := { name := "_law_some", ps := ["_law_bag_here", "_law_things"], N := ["_law_bag_here", "_law_things"], body := qb7 }
/-- _law_alike -/
def qb8 : IB := (.cons (.ret (.and (.cmp .Eq (.x 0) (.x 1)) (.cmp .Eq (.fn .repr (.cons (.x 0) .nil)) (.fn .repr (.cons (.x 1) .nil))))) .nil)
def qd8 : Fn := { name := "_law_alike", ps := ["_law_found", "_law_due"], N := ["_law_found", "_law_due"], body := qb8 }
/-- _law_ratio -/
def qt9_0 : IT := (.e (.cmp .Gt (.x 3) (.k (.int 0))))
def qb9_0 : IB := (.cons (.par2 2 3 (.x 3) (.bin .Mod (.fn .int (.cons (.x 2) .nil)) (.x 3))) .nil)
def qb9 : IB := (.cons (.par2 2 3 (.fn .abs (.cons (.x 0) .nil)) (.fn .abs (.cons (.x 1) .nil))) (.cons (.wh qt9_0 qb9_0 []) (.cons (.set 2 (.ife (.e (.cmp .Gt (.x 1) (.k (.int 0)))) (.x 2) (.neg (.x 2)))) (.cons (.ret (.tup (.cons (.bin .FloorDiv (.fn .int (.cons (.x 0) .nil)) (.x 2)) (.cons (.bin .FloorDiv (.fn .int (.cons (.x 1) .nil)) (.x 2)) .nil)))) .nil))))
def qd9 : Fn := { name := "_law_ratio", ps := ["_law_n", "_law_d"], N := ["_law_n", "_law_d", "_law_one", "_law_other"], body := qb9 }
/-- _law_amount -/
def qb10 : IB := (.cons (.set 1 (.lst (.cons (.tup (.cons (.k (.int 0)) (.cons (.k (.int 1)) .nil))) (.cons (.tup (.cons (.k (.int 1)) (.cons (.k (.int 2)) .nil))) (.cons (.tup (.cons (.k (.int 1)) (.cons (.k (.int 1)) .nil))) (.cons (.tup (.cons (.k (.int 3)) (.cons (.k (.int 2)) .nil))) (.cons (.tup (.cons (.k (.int 1)) (.cons (.k (.int 3)) .nil))) (.cons (.tup (.cons (.k (.int 2)) (.cons (.k (.int 1)) .nil))) (.cons (.tup (.cons (.k (.int 1)) (.cons (.k (.int 4)) .nil))) (.cons (.tup (.cons (.k (.int 5)) (.cons (.k (.int 3)) .nil))) (.cons (.tup (.cons (.k (.int 0)) (.cons (.k (.int 1)) .nil))) .nil))))))))))) (.cons (.ret (.call 7 (.io 0 (.cons (.bin .Add (.x 1) (.lst (.cons (.call 9 (.cons (.call 6 (.io 0 (.cons (.k (.int 40)) .nil))) (.cons (.bin .Add (.k (.int 1)) (.call 6 (.io 0 (.cons (.k (.int 12)) .nil)))) .nil))) .nil))) .nil)))) .nil))
def qd10 : Fn := { name := "_law_amount", ps := ["_law_bag_here"], N := ["_law_bag_here", "_law_some_here"], body := qb10 }
/-- _law_bounds -/
def qb11 : IB := (.cons (.tgt (.cons (.n 1) (.cons (.n 2) .nil)) (.call 7 (.io 0 (.cons (.lst (.cons (.tup (.cons (.k (.int 2)) (.cons (.k (.int 3)) .nil))) (.cons (.tup (.cons (.k (.int 1)) (.cons (.k (.int 2)) .nil))) (.cons (.tup (.cons (.k (.int 1)) (.cons (.k (.int 3)) .nil))) (.cons (.tup (.cons (.k (.int 2)) (.cons (.k (.int 2)) .nil))) (.cons (.tup (.cons (.k (.int 3)) (.cons (.k (.int 5)) .nil))) (.cons (.tup (.cons (.k (.int 1)) (.cons (.k (.int 1)) .nil))) (.cons (.tup (.cons (.k (.int 2)) (.cons (.k (.int 4)) .nil))) (.cons (.tup (.cons (.k (.int 3)) (.cons (.k (.int 4)) .nil))) (.cons (.tup (.cons (.k (.int 1)) (.cons (.k (.int 5)) .nil))) .nil)))))))))) .nil)))) (.cons (.par3 3 4 5 (.call 10 (.io 0 .nil)) (.call 10 (.io 0 .nil)) (.call 7 (.io 0 (.cons (.lst (.cons (.k (.int 1)) (.cons (.k (.int 2)) (.cons (.k (.int 1)) (.cons (.k (.int 3)) .nil))))) .nil)))) (.cons (.set 6 (.call 7 (.io 0 (.cons (.lst (.cons (.k (.int 4)) (.cons (.k (.int 1)) (.cons (.k (.int 2)) (.cons (.k (.int 9)) (.cons (.k (.int 16)) (.cons (.k (.int 22)) (.cons (.k (.int 40)) (.cons (.bin .Add (.k (.int 1)) (.call 6 (.io 0 (.cons (.k (.int 30)) .nil)))) (.cons (.k (.int 1000)) .nil)))))))))) .nil)))) (.cons (.ret (.tup (.cons (.x 6) (.cons (.x 3) (.cons (.x 4) (.cons (.x 1) (.cons (.x 2) (.cons (.x 5) .nil)))))))) .nil))))
def qd11 : Fn := { name := "_law_bounds", ps := ["_law_bag_here"], N := ["_law_bag_here", "_law_lo", "_law_most", "_law_drift", "_law_shift", "_law_lead", "_law_cell"], body := qb11 }
/-- _law_runs -/
def qb12 : IB := (.cons (.parn [3, 4] (.cons (.ix (.x 1) (.k (.int 3))) (.cons (.ix (.x 1) (.k (.int 4))) .nil))) (.cons (.set 5 (.call 6 (.io 0 (.cons (.k (.int 4)) .nil)))) (.cons (.cond (.e (.cmp .Eq (.x 5) (.k (.int 0)))) (.cons (.ret (.bin .Mult (.tup (.cons (.call 7 (.io 0 (.cons (.lst (.cons (.x 3) (.cons (.x 4) .nil))) .nil))) .nil)) (.x 2))) .nil) .nil) (.cons (.cond (.e (.cmp .Eq (.x 5) (.k (.int 1)))) (.cons (.ret (.fn .tuple (.cons (.lc [("_law_k", 6)] (.n 6) (.r1 (.x 2)) .yes (.ife (.e (.cmp .Eq (.x 6) (.bin .Mult (.bin .FloorDiv (.x 6) (.k (.int 2))) (.k (.int 2))))) (.x 4) (.x 3))) .nil))) .nil) .nil) (.cons (.ret (.fn .tuple (.cons (.lc [("_law_k", 6)] (.n 6) (.r1 (.x 2)) .yes (.bin .Add (.x 3) (.call 6 (.io 0 (.cons (.bin .Add (.bin .Sub (.x 4) (.x 3)) (.k (.int 1))) .nil))))) .nil))) .nil)))))
def qd12 : Fn := { name := "_law_runs", ps := ["_law_bag_here", "_law_bounds_here", "_law_many"], N := ["_law_bag_here", "_law_bounds_here", "_law_many", "_law_lo", "_law_most", "_law_way", "_law_k"], body := qb12 }
/-- _law_wide -/
def qb13 : IB := (.cons (.set 1 (.bin .Add (.k (.int 1)) (.call 6 (.io 0 (.cons (.k (.int 8)) .nil))))) (.cons (.ret (.bin .Add (.sl (.call 11 (.io 0 .nil)) .no (.so (.k (.int 3)))) (.tup (.cons (.x 1) (.cons (.fn .min2 (.cons (.k (.int 16)) (.cons (.bin .Add (.x 1) (.call 7 (.io 0 (.cons (.lst (.cons (.k (.int 0)) (.cons (.k (.int 1)) (.cons (.k (.int 2)) (.cons (.k (.int 8)) .nil))))) .nil)))) .nil))) (.cons (.bin .Add (.k (.int 1)) (.call 6 (.io 0 (.cons (.k (.int 8)) .nil)))) .nil)))))) .nil))
def qd13 : Fn := { name := "_law_wide", ps := ["_law_bag_here"], N := ["_law_bag_here", "_law_lo"], body := qb13 }
/-- _law_all_rows -/
def qb14_0 : IB := (.cons (.cond (.e (.cmp .LtE (.bin .Add (.fn .sum (.cons (.x 6) .nil)) (.x 7)) (.x 1))) (.cons (.ex (.mt .append 5 (.cons (.bin .Add (.x 6) (.tup (.cons (.x 7) .nil))) .nil))) .nil) .nil) .nil)
def qb14_1 : IB := (.cons (.for (.n 7) (.r2 (.ix (.x 0) (.k (.int 3))) (.bin .Add (.ix (.x 0) (.k (.int 4))) (.k (.int 1)))) qb14_0 [2, 4, 7]) .nil)
def qb14_2 : IB := (.cons (.ex (.mt .extend 3 (.cons (.lc [("_law_row", 6)] (.n 6) (.e (.x 2)) (.e (.cmp .Eq (.fn .sum (.cons (.x 6) .nil)) (.x 1))) (.x 6)) .nil))) (.cons (.set 5 (.lst .nil)) (.cons (.for (.n 6) (.e (.x 2)) qb14_1 [2, 4, 6, 7]) (.cons (.set 2 (.x 5)) .nil))))
def qb14 : IB := (.cons (.par2 2 3 (.lst (.cons (.tup .nil) .nil)) (.lst .nil)) (.cons (.for (.n 4) (.r1 (.bin .Add (.x 1) (.k (.int 1)))) qb14_2 [4, 5, 6, 7]) (.cons (.ret (.fn .sorted (.cons (.x 3) .nil))) .nil)))
def qd14 : Fn := { name := "_law_all_rows", ps := ["_law_bounds_here", "_law_cells"], N := ["_law_bounds_here", "_law_cells", "_law_found", "_law_done", "_law_turn", "_law_longer", "_law_row", "_law_run"], body := qb14 }
/-- _law_is_row_right -/
def qb15_0 : IB := (.cons (.ex (.mt .append 2 (.cons (.bin .Sub (.ix (.x 1) (.neg (.k (.int 1)))) (.x 4)) .nil))) .nil)
def qb15_1 : IB := (.cons (.ex (.mt .append 1 (.cons (.bin .Add (.ix (.x 1) (.neg (.k (.int 1)))) (.x 3)) .nil))) .nil)
def qb15 : IB := (.cons (.par2 1 2 (.lst (.cons (.k (.int 0)) .nil)) (.lst .nil)) (.cons (.for (.n 3) (.e (.x 0)) qb15_1 [3, 4, 5, 6]) (.cons (.for (.n 4) (.e (.sl (.x 1) .no (.so (.neg (.k (.int 1)))))) qb15_0 [3, 4, 5, 6]) (.cons (.cond (.not (.e (.call 8 (.cons (.lst (.cons (.call 0 (.cons (.x 0) .nil)) (.cons (.call 1 (.cons (.x 0) .nil)) .nil))) (.cons (.lst (.cons (.fn .tuple (.cons (.x 1) .nil)) (.cons (.ix (.x 1) (.neg (.k (.int 1)))) .nil))) .nil))))) (.cons (.ret (.k (.bool false))) .nil) .nil) (.cons (.set 5 (.fn .tuple (.cons (.lc [("_law_k", 6)] (.n 6) (.r1 (.fn .len (.cons (.x 0) .nil))) .yes (.ix (.x 0) (.bin .Sub (.bin .Sub (.fn .len (.cons (.x 0) .nil)) (.k (.int 1))) (.x 6)))) .nil))) (.cons (.ret (.call 8 (.cons (.lst (.cons (.call 3 (.cons (.x 0) .nil)) (.cons (.call 2 (.cons (.x 0) .nil)) .nil))) (.cons (.lst (.cons (.fn .tuple (.cons (.fn .sorted (.cons (.x 2) .nil)) .nil)) (.cons (.x 5) .nil))) .nil)))) .nil))))))
def qd15 : Fn := { name := "_law_is_row_right", ps := ["_law_row"], N := ["_law_row", "_law_cells", "_law_back", "_law_run", "_law_cell", "_law_turned", "_law_k"], body := qb15 }
/-- law -/
def qb16_0 : IB := (.cons (.set 8 (.call 4 (.cons (.x 3) (.cons (.x 5) .nil)))) (.cons (.cond (.not (.e (.call 8 (.io 8 (.cons (.x 6) .nil))))) (.cons (.ret (.k (.bool false))) .nil) .nil) (.cons (.ex (.mt .append 8 (.cons (.tup .nil) .nil))) (.cons (.six 8 (.k (.int 0)) (.k .none)) .nil))))
def qb16_1 : IB := (.cons (.par2 3 5 (.call 11 (.io 1 .nil)) (.call 7 (.io 1 (.cons (.lst (.cons (.k (.int 0)) (.cons (.k (.int 1)) (.cons (.k (.int 2)) (.cons (.k (.int 5)) (.cons (.k (.int 9)) (.cons (.k (.int 14)) .nil))))))) .nil)))) (.cons (.set 6 (.call 14 (.cons (.x 3) (.cons (.x 5) .nil)))) (.cons (.for (.n 7) (.r1 (.k (.int 2))) qb16_0 [0, 2, 4, 7, 8]) .nil)))
def qb16_2 : IB := (.cons (.set 3 (.call 7 (.io 1 (.cons (.lst (.cons (.call 11 (.io 1 .nil)) (.cons (.call 13 (.io 1 .nil)) .nil))) .nil)))) (.cons (.set 4 (.call 12 (.io 1 (.cons (.x 3) (.cons (.call 7 (.io 1 (.cons (.lst (.cons (.k (.int 0)) (.cons (.k (.int 1)) (.cons (.k (.int 3)) (.cons (.k (.int 8)) (.cons (.k (.int 40)) .nil)))))) .nil))) .nil))))) (.cons (.cond (.or (.not (.e (.call 15 (.cons (.x 4) .nil)))) (.not (.e (.call 15 (.cons (.bin .Add (.x 4) (.tup (.cons (.call 7 (.io 1 (.cons (.lst (.cons (.k (.int 1)) (.cons (.k (.int 2)) (.cons (.k (.int 40)) .nil)))) .nil))) .nil))) .nil))))) (.cons (.ret (.k (.bool false))) .nil) .nil) .nil)))
def qb16 : IB := (.cons (.set 1 (.call 5 (.cons (.x 0) .nil))) (.cons (.for (.n 2) (.r1 (.k (.int 12))) qb16_2 [0, 2, 3, 4, 5, 6, 7, 8]) (.cons (.for (.n 2) (.r1 (.k (.int 3))) qb16_1 [0, 2, 3, 4, 5, 6, 7, 8]) (.cons (.ret (.k (.bool true))) .nil))))
def qd16 : Fn := { name := "law", ps := ["_law_script"], N := ["_law_script", "_law_bag_here", "_law_turn", "_law_bounds_here", "_law_row", "_law_cells", "_law_due", "_law_again", "_law_told"], body := qb16 }
def defs : List Fn := [qd0, qd1, qd2, qd3, qd4, qd5, qd6, qd7, qd8, qd9, qd10, qd11, qd12, qd13, qd14, qd15, qd16]
def fns : List Str := defs.map (·.name)
def cons : List (Str × PyData) := []
theorem chk0 : chkA fns cons qd0 (topS 1) = true := by decide +kernel
theorem chk1 : chkA fns cons qd1 (topS 2) = true := by decide +kernel
theorem chk2 : chkA fns cons qd2 (topS 3) = true := by decide +kernel
theorem chk3 : chkA fns cons qd3 (topS 4) = true := by decide +kernel
theorem chk4 : chkA fns cons qd4 (topS 5) = true := by decide +kernel
theorem chk5 : chkA fns cons qd5 (topS 7) = true := by decide +kernel
theorem chk6 : chkA fns cons qd6 (topS 8) = true := by decide +kernel
theorem chk7 : chkA fns cons qd7 (topS 9) = true := by decide +kernel
theorem chk8 : chkA fns cons qd8 (topS 10) = true := by decide +kernel
theorem chk9 : chkA fns cons qd9 (topS 11) = true := by decide +kernel
theorem chk10 : chkA fns cons qd10 (topS 12) = true := by decide +kernel
theorem chk11 : chkA fns cons qd11 (topS 13) = true := by decide +kernel
theorem chk12 : chkA fns cons qd12 (topS 14) = true := by decide +kernel
theorem chk13 : chkA fns cons qd13 (topS 15) = true := by decide +kernel
theorem chk14 : chkA fns cons qd14 (topS 16) = true := by decide +kernel
theorem chk15 : chkA fns cons qd15 (topS 17) = true := by decide +kernel
theorem chk16 : chkA fns cons qd16 (topS 18) = true := by decide +kernel
def FU : Nat := 10 ^ 400
theorem run_at (n f : Nat) (as : List Sl) (fn : Fn) (h : defs[f]? = some fn) (ht : fn.tr = none := by rfl) (hf : fn.ft = none := by rfl) (hw : fn.thaw = false := by rfl) : runP cons FU defs (n + 1) f as = runFn (runP cons FU defs n) cons FU fn as := congrFun (runP_no h ht hf hw) as
theorem at_def {n f : Nat} {as : List Sl} (fn : Fn) (h : defs[f]? = some fn) (hl : as.length = fn.ps.length) (ht : fn.tr = none := by rfl) (hf : fn.ft = none := by rfl) (hw : fn.thaw = false := by rfl) : runP cons FU defs (n + 1) f as = (runB (runP cons FU defs n) cons FU fn.body (startE fn.N.length as)).bind fun fl => match fl with
    | .nx env => (outA as env).bind fun l => some (.v .none, l)
    | .rt r env => (outA as env).bind fun l => some (r, l)
    | _ => none := by
  exact (run_at n f as fn h ht hf hw).trans ((runFn_eq hl).trans rfl)
theorem take_at (n : Nat) (b : Bag) (m : Int) (k : Nat) (h : b.Ok k) (hn : k ≤ 10 ^ 9) (hm : 0 < m) (hm2 : m.natAbs < 10 ^ 60) :
    ∃ (r : Int) (b' : Bag), runP cons FU defs (n + 1) 6 [.b b.d, .v (.int m)] = some (.v (.int r), b'.d) ∧ 0 ≤ r ∧ r < m ∧ b'.Ok (k + 1) := by
  rw [run_at n 6 _ qd6 rfl]
  exact take_run b m k h hn hm hm2
theorem some_at (n : Nat) (b : Bag) (xs : List PyData) (k : Nat) (h : b.Ok k) (hn : k ≤ 10 ^ 9) (hx : 0 < xs.length) (hx2 : xs.length < 10 ^ 60) :
    ∃ (v : PyData) (b' : Bag), runP cons FU defs (n + 2) 7 [.b b.d, .v (.list xs)] = some (.v v, b'.d) ∧ v ∈ xs ∧ b'.Ok (k + 1) := by
  obtain ⟨r, b', e, h0, h1, h2⟩ := take_at n b xs.length k h hn (by omega) (by simpa using hx2)
  obtain ⟨j, rfl⟩ := Int.eq_ofNat_of_zero_le h0
  have hj : j < xs.length := by omega
  refine ⟨xs[j], b', ?_, List.getElem_mem hj, h2⟩
  have e2 : atI xs ((j : Nat) : Int) = some xs[j] := atI_nat (List.getElem?_eq_getElem hj)
  rw [run_at (n + 1) 7 _ qd7 rfl, runFn_eq rfl]
  show (runB _ cons FU qd7.body [some (.b b.d), some (.v (.list xs))]).bind _ = _
  simp [qd7, qb7, e, e2]
theorem bag_at (n : Nat) (ns : List Int) (hn : ns.length ≤ 63) : runP cons FU defs (n + 1) 5 [.v (.list (ns.map .int))] = some (.o (bag0 ns).d, []) := by
  rw [run_at n 5 _ qd5 rfl]
  exact bag_run ns hn
theorem alike_at (n : Nat) {d : PyData} (h : Alk2 d) : runP cons FU defs (n + 1) 8 [.v d, .v d] = some (.v (.bool true), []) := by
  rw [run_at n 8 _ qd8 rfl]
  exact h.run
theorem alike_lt (n : Nat) {l : List PyData} (h : Alk2 (.list l)) : runP cons FU defs (n + 1) 8 [.b l, .v (.list l)] = some (.v (.bool true), l) := by
  rw [run_at n 8 _ qd8 rfl]
  exact h.runb
theorem alike_lt2 (n : Nat) {l : List PyData} (h : Alk2 (.list l)) : runP cons FU defs (n + 1) 8 [.v (.list l), .b l] = some (.v (.bool true), l) := by
  rw [run_at n 8 _ qd8 rfl]
  exact h.runb2
theorem some_int (n : Nat) (b : Bag) (xs : List Int) (k : Nat) (h : b.Ok k) (hn : k ≤ 10 ^ 9) (hx : 0 < xs.length) (hx2 : xs.length < 10 ^ 60) :
    ∃ (i : Int) (b' : Bag), runP cons FU defs (n + 2) 7 [.b b.d, .v (.list (xs.map .int))] = some (.v (.int i), b'.d) ∧ i ∈ xs ∧ b'.Ok (k + 1) := by
  obtain ⟨v, b', e, m, k'⟩ := some_at n b (xs.map .int) k h hn (by simpa using hx) (by simpa using hx2)
  obtain ⟨i, hi, rfl⟩ := List.mem_map.mp m
  exact ⟨i, b', e, hi, k'⟩

theorem abs_eq (a : Int) : (if a < 0 then -a else a) = (a.natAbs : Int) := by
  split <;> omega
theorem fuel {k : Nat} {a : Int} (h : Bd k a) (hk : k ≤ 400) : a.natAbs < FU := h.mono hk
section
variable {p q : Int × Int} {k : Nat} (n : Nat)
end

section
variable {p q : Int × Int} {k : Nat} (n : Nat)
end

theorem ratio_at (n : Nat) (a b : Int) {k : Nat} (h : Bd k b) (hk : k ≤ 400) (hb : b ≠ 0) : runP cons FU defs (n + 1) 9 [.v (.int a), .v (.int b)] = some (.v (frD (redI a b)), []) := by
  rw [at_def qd9 rfl rfl]
  have L := gcd_loop (c := fun en => runT (runP cons FU defs n) cons qt9_0 en) (body := fun en => (runB (runP cons FU defs n) cons FU qb9_0 en).bind fun f => some (wipF [] f)) (fun x y => [some (.v (.int a)), some (.v (.int b)), some (.v (.int x)), some (.v (.int y))])
    (fun x => by simp [qt9_0]) (fun x y hy => by simp [qt9_0, hy]) (fun x y _ hy => by simp [qb9_0, modB hy]) b.natAbs a.natAbs FU (fuel h hk)
  obtain ⟨e, x, y, he, h1, h2, h3, h4, h5, h6⟩ := redI_is (n := a) hb
  have be : Bd k e := by
    have := Bd.gcd (n := a) hb h
    unfold Bd at *
    omega
  have f1 (z : Int) := fdivK (a := z) he be (by omega)
  have gg : ((a.natAbs.gcd b.natAbs : Nat) : Int) = (Int.gcd a b : Int) := rfl
  by_cases hp : 0 < b
  · rw [if_pos hp] at h6
    simp [qd9, qb9, startE_eq, List.replicate_succ, runS_wh, abs_eq, L, gg, hp, h6, f1, frD, redI]
  · rw [if_neg hp] at h6
    simp [qd9, qb9, startE_eq, List.replicate_succ, runS_wh, abs_eq, L, gg, hp, h6, f1, frD, redI]
section
variable {p q : Int × Int} {k : Nat} (n : Nat)
end

--part
/-! drawn bounds -/
structure B5 where
  c : Int
  e : Int
  a : Int
  e2 : Int
  a2 : Int
  lo : Nat
  most : Nat
  lead : Nat
def B5.d (b : B5) : PyData := .tuple [.int b.c, frD (qF b.e b.a), frD (qF b.e2 b.a2), .int b.lo, .int b.most, .int b.lead]
@[simp] theorem B5.i0 (b : B5) : ixD b.d (.int 0) = some (.int b.c) := rfl
@[simp] theorem B5.i1 (b : B5) : ixD b.d (.int 1) = some (frD (qF b.e b.a)) := rfl
@[simp] theorem B5.i2 (b : B5) : ixD b.d (.int 2) = some (frD (qF b.e2 b.a2)) := rfl
@[simp] theorem B5.i3 (b : B5) : ixD b.d (.int 3) = some (.int b.lo) := rfl
@[simp] theorem B5.i4 (b : B5) : ixD b.d (.int 4) = some (.int b.most) := rfl
@[simp] theorem B5.i5 (b : B5) : ixD b.d (.int 5) = some (.int b.lead) := rfl
structure B5.Ok (b : B5) : Prop where
  c0 : 1 ≤ b.c
  c1 : b.c ≤ 1000
  e0 : 1 ≤ b.e
  e1 : b.e ≤ 12
  a0 : 0 ≤ b.a
  a1 : b.a ≤ 40
  f0 : 1 ≤ b.e2
  f1 : b.e2 ≤ 12
  g0 : 0 ≤ b.a2
  g1 : b.a2 ≤ 40
  l0 : 1 ≤ b.lo
  l1 : b.lo ≤ b.most
  l2 : b.most ≤ 5
  l3 : 1 ≤ b.lead
  l4 : b.lead ≤ 3
/-- the one denominator of all that is drawn under these bounds -/
def B5.D (b : B5) : Int := b.e * 24
theorem B5.Ok.D0 {b : B5} (h : b.Ok) : 0 < b.D := by
  have := h.e0
  unfold B5.D
  omega
theorem B5.Ok.D1 {b : B5} (h : b.Ok) : b.D ≤ 288 := by
  have := h.e1
  unfold B5.D
  omega
theorem frD_q {x y : Int} {p : Int × Int} (h : redI x y = p) : frD p = frD (qF y x) := by rw [← h]; rfl
theorem amount_at (n : Nat) (b : Bag) (k : Nat) (hb : b.Ok k) (hk : k ≤ 10 ^ 8) : ∃ (e a : Int) (b' : Bag), runP cons FU defs (n + 3) 10 [.b b.d] = some (.v (frD (qF e a)), b'.d) ∧ 1 ≤ e ∧ e ≤ 12 ∧ 0 ≤ a ∧ a ≤ 40 ∧ b'.Ok (k + 3) := by
  obtain ⟨r1, b1, q1, g1, h1, k1⟩ := take_at (n + 1) b 40 k hb (by omega) (by decide) (by decide)
  obtain ⟨r2, b2, q2, g2, h2, k2⟩ := take_at (n + 1) b1 12 _ k1 (by omega) (by decide) (by decide)
  have rt := ratio_at (n + 1) r1 (1 + r2) (k := 2) (by unfold Bd; omega) (by decide) (by omega)
  obtain ⟨v, b3, q3, m3, k3⟩ := some_at n b2 [.tuple [.int 0, .int 1], .tuple [.int 1, .int 2], .tuple [.int 1, .int 1], .tuple [.int 3, .int 2], .tuple [.int 1, .int 3], .tuple [.int 2, .int 1], .tuple [.int 1, .int 4], .tuple [.int 5, .int 3], .tuple [.int 0, .int 1], frD (redI r1 (1 + r2))] _ k2 (by omega) (by simp) (by simp)
  obtain ⟨e, a, rfl, h⟩ : ∃ e a : Int, v = frD (qF e a) ∧ 1 ≤ e ∧ e ≤ 12 ∧ 0 ≤ a ∧ a ≤ 40 := by
    simp only [List.mem_cons, List.not_mem_nil, or_false] at m3
    rcases m3 with rfl | rfl | rfl | rfl | rfl | rfl | rfl | rfl | rfl | rfl
    · exact ⟨1, 0, frD_q (p := (0, 1)) (by decide +kernel), by omega⟩
    · exact ⟨2, 1, frD_q (p := (1, 2)) (by decide +kernel), by omega⟩
    · exact ⟨1, 1, frD_q (p := (1, 1)) (by decide +kernel), by omega⟩
    · exact ⟨2, 3, frD_q (p := (3, 2)) (by decide +kernel), by omega⟩
    · exact ⟨3, 1, frD_q (p := (1, 3)) (by decide +kernel), by omega⟩
    · exact ⟨1, 2, frD_q (p := (2, 1)) (by decide +kernel), by omega⟩
    · exact ⟨4, 1, frD_q (p := (1, 4)) (by decide +kernel), by omega⟩
    · exact ⟨3, 5, frD_q (p := (5, 3)) (by decide +kernel), by omega⟩
    · exact ⟨1, 0, frD_q (p := (0, 1)) (by decide +kernel), by omega⟩
    · exact ⟨1 + r2, r1, rfl, by omega⟩
  refine ⟨e, a, b3, ?_, h.1, h.2.1, h.2.2.1, h.2.2.2, k3⟩
  rw [at_def qd10 rfl rfl]
  simp [qd10, qb10, startE_eq, List.replicate_succ, q1, q2, rt, q3]
theorem bounds_at (n : Nat) (b : Bag) (k : Nat) (hb : b.Ok k) (hk : k ≤ 10 ^ 7) : ∃ (B : B5) (b' : Bag), runP cons FU defs (n + 4) 11 [.b b.d] = some (.v B.d, b'.d) ∧ B.Ok ∧ b'.Ok (k + 10) := by
  obtain ⟨v, b1, q1, m1, k1⟩ := some_at (n + 1) b [.tuple [.int 2, .int 3], .tuple [.int 1, .int 2], .tuple [.int 1, .int 3], .tuple [.int 2, .int 2], .tuple [.int 3, .int 5], .tuple [.int 1, .int 1], .tuple [.int 2, .int 4], .tuple [.int 3, .int 4], .tuple [.int 1, .int 5]] _ hb (by omega) (by simp) (by simp)
  obtain ⟨lo, most, rfl, h⟩ : ∃ lo most : Nat, v = .tuple [.int lo, .int most] ∧ 1 ≤ lo ∧ lo ≤ most ∧ most ≤ 5 := by
    simp only [List.mem_cons, List.not_mem_nil, or_false] at m1
    rcases m1 with rfl | rfl | rfl | rfl | rfl | rfl | rfl | rfl | rfl
    · exact ⟨2, 3, rfl, by omega⟩
    · exact ⟨1, 2, rfl, by omega⟩
    · exact ⟨1, 3, rfl, by omega⟩
    · exact ⟨2, 2, rfl, by omega⟩
    · exact ⟨3, 5, rfl, by omega⟩
    · exact ⟨1, 1, rfl, by omega⟩
    · exact ⟨2, 4, rfl, by omega⟩
    · exact ⟨3, 4, rfl, by omega⟩
    · exact ⟨1, 5, rfl, by omega⟩
  obtain ⟨e, a, b2, q2, h2, h3, h4, h5, k2⟩ := amount_at n b1 _ k1 (by omega)
  obtain ⟨e2, a2, b3, q3, g2, g3, g4, g5, k3⟩ := amount_at n b2 _ k2 (by omega)
  obtain ⟨ld, b4, q4, m4, k4⟩ := some_int (n + 1) b3 [1, 2, 1, 3] _ k3 (by omega) (by simp) (by simp)
  have hld := (by decide : ∀ j ∈ [(1 : Int), 2, 1, 3], 1 ≤ j ∧ j ≤ 3) ld m4
  obtain ⟨r5, b5, q5, g6, h6, k5⟩ := take_at (n + 2) b4 30 _ k4 (by omega) (by decide) (by decide)
  obtain ⟨c, b6, q6, m6, k6⟩ := some_int (n + 1) b5 [4, 1, 2, 9, 16, 22, 40, 1 + r5, 1000] _ k5 (by omega) (by simp) (by simp)
  have hc : 1 ≤ c ∧ c ≤ 1000 := by
    simp only [List.mem_cons, List.not_mem_nil, or_false] at m6
    omega
  simp only [List.map_cons, List.map_nil] at q4 q6
  obtain ⟨ld, rfl⟩ := Int.eq_ofNat_of_zero_le (show 0 ≤ ld by omega)
  refine ⟨⟨c, e, a, e2, a2, lo, most, ld⟩, b6, ?_, ⟨hc.1, hc.2, h2, h3, h4, h5, g2, g3, g4, g5, h.1, h.2.1, h.2.2, by show 1 ≤ ld; omega, by show ld ≤ 3; omega⟩, k6⟩
  rw [at_def qd11 rfl rfl]
  simp [qd11, qb11, startE_eq, List.replicate_succ, q1, q2, q3, q4, q5, q6, B5.d]
theorem runs_at (n : Nat) (b : Bag) (k : Nat) (hb : b.Ok k) (hk : k ≤ 10 ^ 7) (B : B5) (h : B.Ok) (m : Nat) (hm : m ≤ 100) : ∃ (rs : List Nat) (b' : Bag), runP cons FU defs (n + 3) 12 [.b b.d, .v B.d, .v (.int m)] = some (.v (.tuple (rs.map fun r : Nat => .int r)), b'.d) ∧ rs.length = m ∧ (∀ r ∈ rs, B.lo ≤ r ∧ r ≤ B.most) ∧ b'.Ok (k + m + 2) := by
  obtain ⟨r1, b1, q1, g1, h1, k1⟩ := take_at (n + 1) b 4 k hb (by omega) (by decide) (by decide)
  have rg := rngO_n (i := 0) (j := (m : Int)) (n := m) (by omega) (by omega) (by omega) (by omega) (by omega)
  have zm : m ≤ sizeLine := by rw [line_is]; omega
  have l1 := h.l1
  have l2 := h.l2
  by_cases w0 : r1 = 0
  · subst w0
    obtain ⟨i, b2, q2, m2, k2⟩ := some_int n b1 [(B.lo : Int), B.most] _ k1 (by omega) (by simp) (by simp)
    obtain ⟨r, rfl, hr⟩ : ∃ r : Nat, i = r ∧ B.lo ≤ r ∧ r ≤ B.most := by
      simp only [List.mem_cons, List.not_mem_nil, or_false] at m2
      rcases m2 with rfl | rfl
      · exact ⟨_, rfl, by omega⟩
      · exact ⟨_, rfl, by omega⟩
    simp only [List.map_cons, List.map_nil] at q2
    have rp := rep_t (.int r) m (by omega)
    refine ⟨List.replicate m r, b2, ?_, by simp, fun x hx => by rw [List.eq_of_mem_replicate hx]; exact hr, k2.mono (by omega)⟩
    rw [at_def qd12 rfl rfl]
    simp [qd12, qb12, startE_eq, List.replicate_succ, q1, q2, rp]
  · by_cases w1 : r1 = 1
    · subst w1
      have c := compD_mapF (turn := lcTurn (runP cons FU defs (n + 2)) cons [("_law_k", 6)] (.n 6) .yes (.ife (.e (.cmp .Eq (.x 6) (.bin .Mult (.bin .FloorDiv (.x 6) (.k (.int 2))) (.k (.int 2))))) (.x 4) (.x 3))) (fun i : Nat => PyData.int (0 + i)) (fun i => .int ((if i = i / 2 * 2 then B.most else B.lo : Nat) : Int))
        [some (.b b1.d), some (.v B.d), some (.v (.int m)), some (.v (.int B.lo)), some (.v (.int B.most)), some (.v (.int 1)), none] (List.range m) (fun i hi => by
          rw [List.mem_range] at hi
          have fd : binD .FloorDiv (.int (0 + (i : Int))) (.int 2) = some (.v (.int ((0 + (i : Int)) / 2))) := fdivB (by decide) (by decide)
          have mm : binD .Mult (.int ((0 + (i : Int)) / 2)) (.int 2) = some (.v (.int ((0 + (i : Int)) / 2 * 2))) := mulB (by omega) (by decide)
          have e : (0 + (i : Int) = (0 + (i : Int)) / 2 * 2) ↔ i = i / 2 * 2 := by omega
          by_cases hc : i = i / 2 * 2
          · have hc2 := e.mpr hc
            simp only [Int.zero_add] at *
            simp [lcTurn, fd, mm, ← hc2, ← hc, wipeE]
          · have hc2 : ¬ ((0 + (i : Int)) = (0 + (i : Int)) / 2 * 2) := fun z => hc (e.mp z)
            simp only [Int.zero_add] at *
            simp [lcTurn, fd, mm, hc2, hc, wipeE])
      rw [← rngD_map] at c
      refine ⟨(List.range m).map fun i => if i = i / 2 * 2 then B.most else B.lo, b1, ?_, by simp, fun x hx => ?_, k1.mono (by omega)⟩
      · have e2 : ((List.range m).map fun i => PyData.int ((if i = i / 2 * 2 then B.most else B.lo : Nat) : Int)) = ((List.range m).map fun i => if i = i / 2 * 2 then B.most else B.lo).map fun r : Nat => PyData.int r := by rw [List.map_map]; rfl
        rw [e2] at c
        have hlen : ((List.range m).map fun i => if i = i / 2 * 2 then B.most else B.lo).length = m := by simp
        generalize ((List.range m).map fun i => if i = i / 2 * 2 then B.most else B.lo) = L at *
        have zl : L.length ≤ sizeLine := by rw [hlen]; exact zm
        rw [at_def qd12 rfl rfl]
        simp [qd12, qb12, startE_eq, List.replicate_succ, q1, rg, runE_lc, noOwn, wipeE, backE, c, zl]
      · obtain ⟨i, _, rfl⟩ := List.mem_map.mp hx
        split <;> omega
    · obtain ⟨ys, e', e, p1, p2, b', hb', rfl⟩ := compD_keep (turn := lcTurn (runP cons FU defs (n + 2)) cons [("_law_k", 6)] (.n 6) .yes (.bin .Add (.x 3) (.call 6 (.io 0 (.cons (.bin .Add (.bin .Sub (.x 4) (.x 3)) (.k (.int 1))) .nil))))) (fun i e => ∃ b' : Bag, b'.Ok (k + 1 + i) ∧ e = [some (.b b'.d), some (.v B.d), some (.v (.int m)), some (.v (.int B.lo)), some (.v (.int B.most)), some (.v (.int r1)), none])
        (fun d => ∃ r : Nat, d = .int r ∧ B.lo ≤ r ∧ r ≤ B.most) (rngD 0 m) 0 [some (.b b1.d), some (.v B.d), some (.v (.int m)), some (.v (.int B.lo)), some (.v (.int B.most)), some (.v (.int r1)), none] ⟨b1, k1, rfl⟩ (by
          rintro i hi e ⟨b2, hb2, rfl⟩
          rw [rngD_len] at hi
          obtain ⟨r, b3, q, g, hh, k3⟩ := take_at (n + 1) b2 ((B.most : Int) - B.lo + 1) _ hb2 (by omega) (by omega) (by omega)
          refine ⟨.int (B.lo + r), _, ?_, ⟨B.lo + r.toNat, by congr 1; omega, by omega, by omega⟩, b3, k3.mono (by omega), rfl⟩
          simp [lcTurn, q, wipeE])
      have key : ∀ ys : List PyData, (∀ y ∈ ys, ∃ r : Nat, y = .int r ∧ B.lo ≤ r ∧ r ≤ B.most) → ∃ rs : List Nat, ys = (rs.map fun r : Nat => PyData.int r) ∧ ∀ r ∈ rs, B.lo ≤ r ∧ r ≤ B.most := by
        intro ys
        induction ys with
        | nil => intro _; exact ⟨[], rfl, by simp⟩
        | cons y r ih =>
          intro h
          obtain ⟨p, rfl, hp⟩ := h y (by simp)
          obtain ⟨ps, rfl, h2⟩ := ih fun z hz => h z (List.mem_cons_of_mem _ hz)
          exact ⟨p :: ps, rfl, fun q hq => by
            rcases List.mem_cons.mp hq with rfl | hq
            · exact hp
            · exact h2 q hq⟩
      obtain ⟨rs, rfl, hrs⟩ := key ys p1
      rw [rngD_len] at p2
      rw [List.length_map] at p2
      rw [Nat.zero_add, rngD_len] at hb'
      refine ⟨rs, b', ?_, p2, hrs, hb'.mono (by omega)⟩
      have zl : rs.length ≤ sizeLine := by rw [p2]; exact zm
      rw [at_def qd12 rfl rfl]
      simp [qd12, qb12, startE_eq, List.replicate_succ, q1, w0, w1, rg, runE_lc, noOwn, wipeE, backE, e, zl]

--part
/-! how many rows there are with so many cells -/
def cntV (lo mo k : Nat) (l : List Nat) : Nat := ((l.drop (k + 1 - mo)).take (k + 2 - lo - (k + 1 - mo))).sum
def cntL (lo mo : Nat) : Nat → List Nat
  | 0 => [1]
  | k + 1 => cntL lo mo k ++ [cntV lo mo k (cntL lo mo k)]
theorem cntL_len (lo mo : Nat) : ∀ k, (cntL lo mo k).length = k + 1
  | 0 => rfl
  | k + 1 => by
    show (cntL lo mo k ++ [_]).length = _
    rw [List.length_append, cntL_len lo mo k]
    rfl
def cN (lo mo k : Nat) : Nat := (cntL lo mo k).getD k 0
theorem cntL_get (lo mo : Nat) : ∀ (k i : Nat), i ≤ k → (cntL lo mo k)[i]? = some (cN lo mo i)
  | 0, i, h => by
    obtain rfl : i = 0 := by omega
    rfl
  | k + 1, i, h => by
    have hl := cntL_len lo mo k
    by_cases e : i = k + 1
    · subst e
      have h2 := cntL_len lo mo (k + 1)
      unfold cN
      rw [List.getD_eq_getElem?_getD, List.getElem?_eq_getElem (by omega)]
      rfl
    · show (cntL lo mo k ++ [_])[i]? = _
      rw [List.getElem?_append_left (by omega)]
      exact cntL_get lo mo k i (by omega)
theorem cN_zero (lo mo : Nat) : cN lo mo 0 = 1 := rfl
theorem cN_succ (lo mo k : Nat) : cN lo mo (k + 1) = cntV lo mo k (cntL lo mo k) := by
  have h := cntL_get lo mo (k + 1) (k + 1) (Nat.le_refl _)
  have e : (cntL lo mo k ++ [cntV lo mo k (cntL lo mo k)])[k + 1]? = some (cntV lo mo k (cntL lo mo k)) := by
    rw [List.getElem?_append_right (Nat.le_of_eq (cntL_len lo mo k))]
    rw [cntL_len]
    simp
  rw [show (cntL lo mo (k + 1)) = cntL lo mo k ++ [cntV lo mo k (cntL lo mo k)] from rfl, e] at h
  exact (Option.some.inj h).symm
theorem sum_take_le : ∀ (l : List Nat) (n : Nat), (l.take n).sum ≤ l.sum
  | [], _ => by simp
  | _ :: _, 0 => by simp
  | x :: r, n + 1 => by
    have := sum_take_le r n
    simp only [List.take_succ_cons, List.sum_cons]
    omega
theorem sum_drop_le : ∀ (l : List Nat) (n : Nat), (l.drop n).sum ≤ l.sum
  | [], _ => by simp
  | _ :: _, 0 => by simp
  | x :: r, n + 1 => by
    have := sum_drop_le r n
    simp only [List.drop_succ_cons, List.sum_cons]
    omega
theorem cntL_sum (lo mo : Nat) : ∀ k, (cntL lo mo k).sum ≤ 2 ^ k
  | 0 => Nat.le_refl 1
  | k + 1 => by
    have ih := cntL_sum lo mo k
    have h : cntV lo mo k (cntL lo mo k) ≤ (cntL lo mo k).sum := Nat.le_trans (sum_take_le _ _) (sum_drop_le _ _)
    show (cntL lo mo k ++ [_]).sum ≤ _
    rw [List.sum_append_nat, List.sum_cons, List.sum_nil, Nat.pow_succ]
    omega
theorem mem_sum_le {x : Nat} : ∀ {l : List Nat}, x ∈ l → x ≤ l.sum
  | y :: r, h => by
    simp only [List.sum_cons]
    rcases List.mem_cons.mp h with rfl | h
    · omega
    · have := mem_sum_le h
      omega
theorem cN_le (lo mo k : Nat) : cN lo mo k ≤ 2 ^ k := by
  have h := cntL_get lo mo k k (Nat.le_refl _)
  exact Nat.le_trans (mem_sum_le (List.mem_of_getElem? h)) (cntL_sum lo mo k)
/-- how many begin with a run below r -/
def pre (lo mo left r : Nat) : Nat := ((List.range (r - lo)).map fun j => cN lo mo (left - (lo + j))).sum
theorem pre_lo (lo mo left : Nat) : pre lo mo left lo = 0 := by
  unfold pre
  rw [Nat.sub_self]
  rfl
theorem pre_succ (lo mo left r : Nat) (h : lo ≤ r) : pre lo mo left (r + 1) = pre lo mo left r + cN lo mo (left - r) := by
  unfold pre
  rw [show r + 1 - lo = (r - lo) + 1 by omega, List.range_succ, List.map_append, List.sum_append_nat]
  simp only [List.map_cons, List.map_nil, List.sum_cons, List.sum_nil, Nat.add_zero]
  rw [show lo + (r - lo) = r by omega]
theorem pre_mono (lo mo left r : Nat) : ∀ d, lo ≤ r → pre lo mo left r ≤ pre lo mo left (r + d)
  | 0, _ => Nat.le_refl _
  | d + 1, h => by
    have ih := pre_mono lo mo left r d h
    rw [← Nat.add_assoc, pre_succ lo mo left (r + d) (by omega)]
    omega
/-- the window, backward -/
theorem win_rev (lo mo k : Nat) (l : List Nat) (hl : l.length = k + 1) (hlo : 1 ≤ lo) : ((List.range (min mo (k + 1) + 1 - lo)).map fun j => l.getD (k + 1 - (lo + j)) 0) = ((l.drop (k + 1 - mo)).take (k + 2 - lo - (k + 1 - mo))).reverse := by
  have ln : ((l.drop (k + 1 - mo)).take (k + 2 - lo - (k + 1 - mo))).length = min mo (k + 1) + 1 - lo := by
    rw [List.length_take, List.length_drop, hl]
    omega
  apply List.ext_getElem
  · rw [List.length_map, List.length_range, List.length_reverse, ln]
  · intro j h1 h2
    rw [List.length_map, List.length_range] at h1
    rw [List.getElem_map, List.getElem_range, List.getElem_reverse, List.getElem_take, List.getElem_drop, List.getD_eq_getElem?_getD]
    have e : k + 1 - (lo + j) = k + 1 - mo + (((l.drop (k + 1 - mo)).take (k + 2 - lo - (k + 1 - mo))).length - 1 - j) := by
      rw [ln]
      omega
    rw [e, List.getElem?_eq_getElem]
    rfl
theorem nsum_rev2 (l : List Nat) : l.reverse.sum = l.sum := nsum_rev l
theorem cN_pre (lo mo k : Nat) (hlo : 1 ≤ lo) : cN lo mo (k + 1) = pre lo mo (k + 1) (min mo (k + 1) + 1) := by
  rw [cN_succ]
  unfold cntV
  rw [← nsum_rev2, ← win_rev lo mo k _ (cntL_len lo mo k) hlo]
  unfold pre
  congr 1
  apply List.map_congr_left
  intro j hj
  have hj := List.mem_range.mp hj
  rw [List.getD_eq_getElem?_getD, cntL_get lo mo k _ (by omega)]
  rfl
/-! numbers of bodies -/
def rank (lo mo : Nat) : Nat → List Nat → Nat
  | _, [] => 0
  | left, r :: rs => pre lo mo left r + rank lo mo (left - r) rs
structure Vb (lo mo left : Nat) (B : List Nat) : Prop where
  r : ∀ r ∈ B, lo ≤ r ∧ r ≤ mo
  s : B.sum = left
theorem Vb.tail {lo mo left r : Nat} {B : List Nat} (h : Vb lo mo left (r :: B)) : Vb lo mo (left - r) B ∧ lo ≤ r ∧ r ≤ mo ∧ r ≤ left := by
  have h1 := h.r r (by simp)
  have h2 := h.s
  rw [List.sum_cons] at h2
  exact ⟨⟨fun x hx => h.r x (List.mem_cons_of_mem _ hx), by omega⟩, h1.1, h1.2, by omega⟩
theorem rank_lt {lo mo : Nat} (hlo : 1 ≤ lo) : ∀ {B : List Nat} {left : Nat}, Vb lo mo left B → rank lo mo left B < cN lo mo left
  | [], left, h => by
    have : left = 0 := by
      have := h.s
      simpa using this.symm
    subst this
    show 0 < cN lo mo 0
    rw [cN_zero]
    decide
  | r :: B, left, h => by
    obtain ⟨ht, h1, h2, h3⟩ := h.tail
    have ih := rank_lt hlo ht
    obtain ⟨k, rfl⟩ : ∃ k, left = k + 1 := ⟨left - 1, by omega⟩
    have e1 := pre_succ lo mo (k + 1) r h1
    have e2 := pre_mono lo mo (k + 1) (r + 1) (min mo (k + 1) - r) (by omega)
    rw [show r + 1 + (min mo (k + 1) - r) = min mo (k + 1) + 1 by omega, ← cN_pre lo mo k hlo] at e2
    show pre lo mo (k + 1) r + rank lo mo (k + 1 - r) B < _
    omega
theorem rank_inj {lo mo : Nat} (hlo : 1 ≤ lo) : ∀ {B B' : List Nat} {left : Nat}, Vb lo mo left B → Vb lo mo left B' → rank lo mo left B = rank lo mo left B' → B = B'
  | [], [], _, _, _, _ => rfl
  | [], r :: B', left, h, h', _ => by
    obtain ⟨_, h1, _, h3⟩ := h'.tail
    have := h.s
    rw [List.sum_nil] at this
    omega
  | r :: B, [], left, h, h', _ => by
    obtain ⟨_, h1, _, h3⟩ := h.tail
    have := h'.s
    rw [List.sum_nil] at this
    omega
  | r :: B, r' :: B', left, h, h', e => by
    obtain ⟨ht, h1, h2, h3⟩ := h.tail
    obtain ⟨ht', h1', h2', h3'⟩ := h'.tail
    have l := rank_lt hlo ht
    have l' := rank_lt hlo ht'
    have e1 := pre_succ lo mo left r h1
    have e1' := pre_succ lo mo left r' h1'
    have e : pre lo mo left r + rank lo mo (left - r) B = pre lo mo left r' + rank lo mo (left - r') B' := e
    by_cases c : r < r'
    · have m := pre_mono lo mo left (r + 1) (r' - (r + 1)) (by omega)
      rw [show r + 1 + (r' - (r + 1)) = r' by omega] at m
      omega
    · by_cases c2 : r' < r
      · have m := pre_mono lo mo left (r' + 1) (r - (r' + 1)) (by omega)
        rw [show r' + 1 + (r - (r' + 1)) = r by omega] at m
        omega
      · obtain rfl : r = r' := by omega
        rw [rank_inj hlo ht ht' (by omega)]

--part
def natL (l : List Nat) : List PyData := l.map fun c : Nat => PyData.int (c : Int)
theorem natL_len (l : List Nat) : (natL l).length = l.length := by simp [natL]
theorem natL_app (l : List Nat) (v : Nat) : natL l ++ [.int (v : Int)] = natL (l ++ [v]) := by simp [natL]
theorem sum_cast : ∀ l : List Nat, (l.map fun c : Nat => (c : Int)).sum = ((l.sum : Nat) : Int)
  | [] => rfl
  | x :: r => by
    rw [List.map_cons, List.sum_cons, sum_cast r, List.sum_cons, Int.natCast_add]
theorem natL_ints (l : List Nat) : natL l = (l.map fun c : Nat => (c : Int)).map PyData.int := by simp [natL]
theorem sum_natL (l : List Nat) : fnD .sum [.list (natL l)] = some (.v (.int ((l.sum : Nat) : Int))) := by
  rw [fn_sum_l, natL_ints, intsD_map, Option.bind_some, sum_cast]
theorem sum_natT (l : List Nat) : fnD .sum [.tuple (natL l)] = some (.v (.int ((l.sum : Nat) : Int))) := by
  rw [fn_sum_t, natL_ints, intsD_map, Option.bind_some, sum_cast]
theorem at_natL (l : List Nat) (i v : Nat) (h : l[i]? = some v) (j : Int) (hj : j = i) : atI (natL l) j = some (.int (v : Int)) := by
  refine at_n hj ?_
  unfold natL
  rw [List.getElem?_map, h]
  rfl
theorem max_at (x : Int) (A : Nat) (h : (A : Int) = if x > 0 then x else 0) : fnD .max2 [.int 0, .int x] = some (.v (.int (A : Int))) := by
  rw [fn_max, h]
theorem min_at (x y : Int) (A : Nat) (h : (A : Int) = if y < x then y else x) : fnD .min2 [.int x, .int y] = some (.v (.int (A : Int))) := by
  rw [fn_min, h]

--part
/-! all rows over so many cells -/
def rwS (lo mo : Nat) (T : List (List (List Nat))) (k m : Nat) : List (List Nat) := (List.range m).flatMap fun j => (T.getD (k - (lo + j)) []).map fun B => (lo + j) :: B
def rwT (lo mo : Nat) : Nat → List (List (List Nat))
  | 0 => [[[]]]
  | k + 1 => rwT lo mo k ++ [rwS lo mo (rwT lo mo k) (k + 1) (min mo (k + 1) + 1 - lo)]
theorem rwT_len (lo mo : Nat) : ∀ k, (rwT lo mo k).length = k + 1
  | 0 => rfl
  | k + 1 => by
    show (rwT lo mo k ++ [_]).length = _
    rw [List.length_append, rwT_len lo mo k]
    rfl
def rw1 (lo mo k : Nat) : List (List Nat) := (rwT lo mo k).getD k []
theorem rwT_get (lo mo : Nat) : ∀ (k i : Nat), i ≤ k → (rwT lo mo k)[i]? = some (rw1 lo mo i)
  | 0, i, h => by
    obtain rfl : i = 0 := by omega
    rfl
  | k + 1, i, h => by
    have hl := rwT_len lo mo k
    by_cases e : i = k + 1
    · subst e
      have h2 := rwT_len lo mo (k + 1)
      unfold rw1
      rw [List.getD_eq_getElem?_getD, List.getElem?_eq_getElem (by omega)]
      rfl
    · show (rwT lo mo k ++ [_])[i]? = _
      rw [List.getElem?_append_left (by omega)]
      exact rwT_get lo mo k i (by omega)
theorem rw1_succ (lo mo k : Nat) : rw1 lo mo (k + 1) = rwS lo mo (rwT lo mo k) (k + 1) (min mo (k + 1) + 1 - lo) := by
  have h := rwT_get lo mo (k + 1) (k + 1) (Nat.le_refl _)
  have e : (rwT lo mo k ++ [rwS lo mo (rwT lo mo k) (k + 1) (min mo (k + 1) + 1 - lo)])[k + 1]? = some (rwS lo mo (rwT lo mo k) (k + 1) (min mo (k + 1) + 1 - lo)) := by
    rw [List.getElem?_append_right (Nat.le_of_eq (rwT_len lo mo k))]
    rw [rwT_len]
    simp
  rw [show (rwT lo mo (k + 1)) = rwT lo mo k ++ [rwS lo mo (rwT lo mo k) (k + 1) (min mo (k + 1) + 1 - lo)] from rfl, e] at h
  exact (Option.some.inj h).symm
/-- the rows have these numbers, one behind another -/
def Rk (lo mo left : Nat) (l : List (List Nat)) (o : Nat) : Prop := ∀ i B, l[i]? = some B → Vb lo mo left B ∧ rank lo mo left B = o + i
theorem Rk.append {lo mo left o : Nat} {l m : List (List Nat)} (h : Rk lo mo left l o) (h' : Rk lo mo left m (o + l.length)) : Rk lo mo left (l ++ m) o := fun i B e => by
  by_cases c : i < l.length
  · rw [List.getElem?_append_left c] at e
    exact h i B e
  · rw [List.getElem?_append_right (by omega)] at e
    obtain ⟨h1, h2⟩ := h' _ _ e
    exact ⟨h1, by omega⟩
theorem Rk.cons {lo mo left r : Nat} {l : List (List Nat)} (h : Rk lo mo (left - r) l 0) (h1 : lo ≤ r) (h2 : r ≤ mo) (h3 : r ≤ left) : Rk lo mo left (l.map fun B => r :: B) (pre lo mo left r) := fun i B e => by
  rw [List.getElem?_map] at e
  cases q : l[i]? with
  | none =>
    rw [q] at e
    cases e
  | some C =>
    rw [q] at e
    cases e
    obtain ⟨v, e⟩ := h i C q
    refine ⟨⟨fun x hx => ?_, ?_⟩, ?_⟩
    · rcases List.mem_cons.mp hx with rfl | hx
      · exact ⟨h1, h2⟩
      · exact v.r x hx
    · have := v.s
      rw [List.sum_cons]
      omega
    · show pre lo mo left r + rank lo mo (left - r) C = _
      omega
theorem rwS_succ (lo mo : Nat) (T : List (List (List Nat))) (k m : Nat) : rwS lo mo T k (m + 1) = rwS lo mo T k m ++ (T.getD (k - (lo + m)) []).map fun B => (lo + m) :: B := by
  unfold rwS
  rw [List.range_succ, List.flatMap_append]
  simp
theorem rwS_ok {lo mo k : Nat} (hlo : 1 ≤ lo) (ih : ∀ i, i ≤ k → (rw1 lo mo i).length = cN lo mo i ∧ Rk lo mo i (rw1 lo mo i) 0) : ∀ m, m ≤ min mo (k + 1) + 1 - lo →
    (rwS lo mo (rwT lo mo k) (k + 1) m).length = pre lo mo (k + 1) (lo + m) ∧ Rk lo mo (k + 1) (rwS lo mo (rwT lo mo k) (k + 1) m) 0
  | 0, _ => by
    refine ⟨?_, fun i B e => ?_⟩
    · show _ = pre lo mo (k + 1) lo
      rw [pre_lo]
      rfl
    · simp [rwS] at e
  | m + 1, h => by
    obtain ⟨h1, h2⟩ := rwS_ok hlo ih m (by omega)
    obtain ⟨g1, g2⟩ := ih (k + 1 - (lo + m)) (by omega)
    have e : (rwT lo mo k).getD (k + 1 - (lo + m)) [] = rw1 lo mo (k + 1 - (lo + m)) := by
      rw [List.getD_eq_getElem?_getD, rwT_get lo mo k _ (by omega)]
      rfl
    rw [rwS_succ, e]
    refine ⟨?_, h2.append ?_⟩
    · rw [List.length_append, List.length_map, h1, g1, ← Nat.add_assoc, pre_succ lo mo (k + 1) (lo + m) (by omega)]
    · rw [h1, Nat.zero_add]
      exact g2.cons (by omega) (by omega) (by omega)
theorem rw1_ok {lo mo : Nat} (hlo : 1 ≤ lo) (k : Nat) : (rw1 lo mo k).length = cN lo mo k ∧ Rk lo mo k (rw1 lo mo k) 0 := by
  induction k using Nat.strongRecOn with
  | ind k ih =>
    cases k with
    | zero =>
      refine ⟨rfl, fun i B e => ?_⟩
      have e : ([[]] : List (List Nat))[i]? = some B := e
      cases i with
      | zero =>
        cases e
        exact ⟨⟨by simp, rfl⟩, rfl⟩
      | succ i => simp at e
    | succ k =>
      obtain ⟨h1, h2⟩ := rwS_ok hlo (k := k) (fun i hi => ih i (by omega)) (min mo (k + 1) + 1 - lo) (Nat.le_refl _)
      rw [rw1_succ]
      refine ⟨h1.trans ?_, h2⟩
      rw [cN_pre lo mo k hlo]
      unfold pre
      rw [show lo + (min mo (k + 1) + 1 - lo) - lo = min mo (k + 1) + 1 - lo by omega]
theorem rw1_len {lo mo k : Nat} (hlo : 1 ≤ lo) {B : List Nat} (h : B ∈ rw1 lo mo k) : B.length ≤ k := by
  obtain ⟨i, hi, rfl⟩ := List.mem_iff_getElem.mp h
  have v := ((rw1_ok hlo k).2 i _ (List.getElem?_eq_getElem hi)).1
  have h1 : ∀ C : List Nat, (∀ r ∈ C, lo ≤ r ∧ r ≤ mo) → C.length ≤ C.sum := by
    intro C hC
    induction C with
    | nil => simp
    | cons x C ih =>
      have hx := hC x (by simp)
      have := ih fun y hy => hC y (List.mem_cons_of_mem _ hy)
      simp only [List.length_cons, List.sum_cons]
      omega
  have := h1 _ v.r
  have := v.s
  omega

--part
/-- a body that comes later is greater -/
theorem rank_lex {lo mo : Nat} (hlo : 1 ≤ lo) : ∀ {B B' : List Nat} {left : Nat}, Vb lo mo left B → Vb lo mo left B' → rank lo mo left B < rank lo mo left B' → lexI (B.map fun x : Nat => (x : Int)) (B'.map fun x : Nat => (x : Int)) = true
  | [], [], _, _, _, h => by
    exact absurd h (Nat.lt_irrefl _)
  | [], r :: B', left, h, h', _ => rfl
  | r :: B, [], left, h, h', _ => by
    obtain ⟨_, h1, _, h3⟩ := h.tail
    have := h'.s
    rw [List.sum_nil] at this
    omega
  | r :: B, r' :: B', left, h, h', e => by
    obtain ⟨ht, h1, h2, h3⟩ := h.tail
    obtain ⟨ht', h1', h2', h3'⟩ := h'.tail
    have l' := rank_lt hlo ht'
    have e1' := pre_succ lo mo left r' h1'
    have e : pre lo mo left r + rank lo mo (left - r) B < pre lo mo left r' + rank lo mo (left - r') B' := e
    show (if (r : Int) = (r' : Int) then lexI _ _ else decide ((r : Int) < (r' : Int))) = true
    by_cases c : r = r'
    · subst c
      rw [if_pos rfl]
      exact rank_lex hlo ht ht' (by omega)
    · rw [if_neg (by omega)]
      refine decide_eq_true ?_
      by_cases c2 : r' < r
      · have m := pre_mono lo mo left (r' + 1) (r - (r' + 1)) (by omega)
        rw [show r' + 1 + (r - (r' + 1)) = r by omega] at m
        omega
      · omega

def rwD (l : List (List Nat)) : List PyData := l.map fun B => PyData.tuple (natL B)
def tbD (T : List (List (List Nat))) : List PyData := T.map fun l => PyData.list (rwD l)
theorem rwD_len (l : List (List Nat)) : (rwD l).length = l.length := List.length_map _
theorem tbD_len (T : List (List (List Nat))) : (tbD T).length = T.length := List.length_map _
theorem cons_nat (r : Nat) (B : List Nat) (h : B.length ≤ 100000) : binD .Add (.tuple [.int (r : Int)]) (.tuple (natL B)) = some (.v (.tuple (natL (r :: B)))) := by
  rw [add_tt (by rw [natL_len, line_is, List.length_singleton]; omega)]
  rfl
theorem rowsover_at (n : Nat) (Y : PyData) (nY : nls Y = true) (lo mo data : Nat) (b3 : ixD Y (.int 3) = some (.int (lo : Int))) (b4 : ixD Y (.int 4) = some (.int (mo : Int))) (hlo : 1 ≤ lo) (hmo : mo ≤ 1000) (hlo2 : lo ≤ 1000) (hd : data ≤ 1000) (small : ∀ k, k ≤ data → cN lo mo k ≤ 65536) : runP cons FU defs (n + 1) 4 [.v Y, .v (.int (data : Int))] = some (.o (rwD (rw1 lo mo data)), []) := by
  obtain ⟨e, f, rfl⟩ := forD_rng (body := fun d en => (en.put 3 (.v d)).bind fun en1 => (runB (runP cons FU defs n) cons FU qb4_1 en1).bind fun f => some (wipF [3, 4, 5, 6] f))
    (fun i e => e = [some (.v Y), some (.v (.int (data : Int))), some (.o (tbD (rwT lo mo i))), none, none, none, none]) 1 data [some (.v Y), some (.v (.int (data : Int))), some (.o [.list [.tuple []]]), none, none, none, none] rfl (by
      rintro i hi e rfl
      refine ⟨_, ?_, rfl⟩
      have IHs : ∀ m, m ≤ min mo (i + 1) + 1 - lo → (rwS lo mo (rwT lo mo i) (i + 1) m).length ≤ 65536 := fun m hm => by
        obtain ⟨h1, _⟩ := rwS_ok hlo (k := i) (fun j hj => rw1_ok (mo := mo) hlo j) m hm
        rw [h1]
        have h2 := pre_mono lo mo (i + 1) (lo + m) (min mo (i + 1) + 1 - (lo + m)) (by omega)
        by_cases z : lo ≤ min mo (i + 1) + 1
        · rw [show lo + m + (min mo (i + 1) + 1 - (lo + m)) = min mo (i + 1) + 1 by omega, ← cN_pre lo mo i hlo] at h2
          exact Nat.le_trans h2 (small _ (by omega))
        · obtain rfl : m = 0 := by omega
          show pre lo mo (i + 1) lo ≤ 65536
          rw [pre_lo]
          omega
      obtain ⟨e, f, rfl⟩ := forD_rng (body := fun d en => (en.put 5 (.v d)).bind fun en1 => (runB (runP cons FU defs n) cons FU qb4_0 en1).bind fun f => some (wipF [5, 6] f))
        (fun m e => e = [some (.v Y), some (.v (.int (data : Int))), some (.o (tbD (rwT lo mo i))), some (.v (.int (1 + (i : Int)))), some (.o (rwD (rwS lo mo (rwT lo mo i) (i + 1) m))), none, none]) lo (min mo (i + 1) + 1 - lo) [some (.v Y), some (.v (.int (data : Int))), some (.o (tbD (rwT lo mo i))), some (.v (.int (1 + (i : Int)))), some (.o []), none, none] rfl (by
          rintro m hm e rfl
          refine ⟨_, ?_, rfl⟩
          have a : atI (tbD (rwT lo mo i)) (1 + (i : Int) - ((lo : Int) + (m : Int))) = some (.list (rwD (rw1 lo mo (i + 1 - (lo + m))))) := by
            refine at_n (show 1 + (i : Int) - ((lo : Int) + (m : Int)) = ((i + 1 - (lo + m) : Nat) : Int) by omega) ?_
            unfold tbD
            rw [List.getElem?_map, rwT_get lo mo i _ (by omega)]
            rfl
          have cm := compD_mapF (turn := lcTurn (runP cons FU defs n) cons [("row", 6)] (.n 6) .yes (.tup (.cons (.x 5) (.star (.x 6) .nil)))) (fun B : List Nat => PyData.tuple (natL B)) (fun B => PyData.tuple (natL ((lo + m) :: B)))
            [some (.v Y), some (.v (.int (data : Int))), some (.o (tbD (rwT lo mo i))), some (.v (.int (1 + (i : Int)))), some (.o (rwD (rwS lo mo (rwT lo mo i) (i + 1) m))), some (.v (.int ((lo : Int) + (m : Int)))), none] (rw1 lo mo (i + 1 - (lo + m))) (fun B hB => by
              have q : natL ((lo + m) :: B) = .int ((lo : Int) + (m : Int)) :: natL B := by
                rw [← Int.natCast_add]
                rfl
              have gm := getD_mapd (natL B)
              have zt : (natL B).length + 1 ≤ sizeLine := by
                have := rw1_len hlo hB
                rw [natL_len, line_is]
                omega
              rw [q]
              generalize natL B = Z2 at *
              generalize tbD (rwT lo mo i) = Z3 at *
              generalize rwD (rwS lo mo (rwT lo mo i) (i + 1) m) = Z4 at *
              simp [lcTurn, wipeE, gm, zt])
          have cm : compD _ (rwD (rw1 lo mo (i + 1 - (lo + m)))) _ = _ := cm
          have lw : (rwS lo mo (rwT lo mo i) (i + 1) m).length + ((rw1 lo mo (i + 1 - (lo + m))).map fun B => (lo + m) :: B).length ≤ 65536 := by
            have := IHs (m + 1) (by omega)
            rw [rwS_succ, List.length_append] at this
            rw [show (rwT lo mo i).getD (i + 1 - (lo + m)) [] = rw1 lo mo (i + 1 - (lo + m)) by
              rw [List.getD_eq_getElem?_getD, rwT_get lo mo i _ (by omega)]
              rfl] at this
            exact this
          have ap : rwD (rwS lo mo (rwT lo mo i) (i + 1) m) ++ (rw1 lo mo (i + 1 - (lo + m))).map (fun B => PyData.tuple (natL ((lo + m) :: B))) = rwD (rwS lo mo (rwT lo mo i) (i + 1) (m + 1)) := by
            rw [rwS_succ, show (rwT lo mo i).getD (i + 1 - (lo + m)) [] = rw1 lo mo (i + 1 - (lo + m)) by
              rw [List.getD_eq_getElem?_getD, rwT_get lo mo i _ (by omega)]
              rfl]
            unfold rwD
            rw [List.map_append, List.map_map]
            rfl
          have z1 : ((rw1 lo mo (i + 1 - (lo + m))).map (fun B => PyData.tuple (natL ((lo + m) :: B)))).length ≤ sizeLine := by
            rw [List.length_map] at lw ⊢
            rw [line_is]
            omega
          have z2 : (rwD (rwS lo mo (rwT lo mo i) (i + 1) m)).length + ((rw1 lo mo (i + 1 - (lo + m))).map (fun B => PyData.tuple (natL ((lo + m) :: B)))).length ≤ sizeLine := by
            rw [List.length_map] at lw ⊢
            rw [rwD_len, line_is]
            omega
          generalize rwD (rwS lo mo (rwT lo mo i) (i + 1) (m + 1)) = Z1 at *
          generalize rwD (rwS lo mo (rwT lo mo i) (i + 1) m) = Z2 at *
          generalize tbD (rwT lo mo i) = Z3 at *
          generalize ((rw1 lo mo (i + 1 - (lo + m))).map (fun B => PyData.tuple (natL ((lo + m) :: B)))) = Z4 at *
          generalize rwD (rw1 lo mo (i + 1 - (lo + m))) = Z5 at *
          simp [qb4_0, runE_mt, mtD, runE_lc, noOwn, wipeE, backE, a, cm, z1, z2, ap])
      have mi := min_at (mo : Int) (1 + (i : Int)) (min mo (i + 1)) (by split <;> omega)
      have rg := rngO_n (i := lo) (j := ((min mo (i + 1) : Nat) : Int) + 1) (n := min mo (i + 1) + 1 - lo) (by omega) (by omega) (by omega) (by omega) (by omega)
      have zl : (tbD (rwT lo mo i)).length < sizeLine := by rw [tbD_len, rwT_len, line_is]; omega
      have ap : tbD (rwT lo mo i) ++ [.list (rwD (rwS lo mo (rwT lo mo i) (i + 1) (min mo (i + 1) + 1 - lo)))] = tbD (rwT lo mo (i + 1)) := by
        show _ = tbD (rwT lo mo i ++ [_])
        unfold tbD
        rw [List.map_append]
        rfl
      generalize tbD (rwT lo mo (i + 1)) = Z1 at *
      generalize tbD (rwT lo mo i) = Z2 at *
      generalize rwD (rwS lo mo (rwT lo mo i) (i + 1) (min mo (i + 1) + 1 - lo)) = Z3 at *
      generalize ((min mo (i + 1) : Nat) : Int) = A at *
      simp [-fn_min, qb4_1, runE_mt, mtD, runS_for, b3, b4, mi, rg, f, zl, ap])
  have rg := rngO_n (i := 1) (j := (data : Int) + 1) (n := data) (by decide) (by decide) (by omega) (by omega) (by omega)
  have a : atI (tbD (rwT lo mo data)) (data : Int) = some (.list (rwD (rw1 lo mo data))) := by
    refine at_n (show (data : Int) = ((data : Nat) : Int) from rfl) ?_
    unfold tbD
    rw [List.getElem?_map, rwT_get lo mo data data (Nat.le_refl _)]
    rfl
  have hn : nlsA (rwD (rw1 lo mo data)) = true := by
    have : ∀ l : List (List Nat), nlsA (rwD l) = true := by
      intro l
      induction l with
      | nil => rfl
      | cons B r ih =>
        have e : ∀ B : List Nat, nlsA (natL B) = true := by
          intro B
          induction B with
          | nil => rfl
          | cons _ _ ih => exact ih
        show (nlsA (natL B) && nlsA (rwD r)) = true
        rw [e, ih]
        rfl
    exact this _
  have w : runFn (runP cons FU defs n) cons FU qd4 [.v Y, .v (.int (data : Int))] = some (.v (.list (rwD (rw1 lo mo data))), []) := by
    rw [runFn_eq rfl]
    show (runB _ cons FU qd4.body (startE qd4.N.length _)).bind _ = _
    generalize tbD (rwT lo mo data) = Z1 at *
    generalize rwD (rw1 lo mo data) = Z2 at *
    simp [qd4, qb4, startE_eq, List.replicate_succ, rg, runS_for, f, a]
  rw [runP_th (f := qd4) rfl rfl rfl rfl]
  show thwD _ (runFn _ cons FU qd4 _) = _
  rw [w]
  exact if_pos ⟨rfl, by simp [Sl.d, nY, nls], hn⟩

--part
theorem rk_get {lo mo : Nat} (hlo : 1 ≤ lo) {data i : Nat} (h : i < (rw1 lo mo data).length) : Vb lo mo data (rw1 lo mo data)[i] ∧ rank lo mo data (rw1 lo mo data)[i] = i := by
  have := (rw1_ok (mo := mo) hlo data).2 i _ (List.getElem?_eq_getElem h)
  exact ⟨this.1, by have := this.2; omega⟩
theorem srtd_rw1 {lo mo : Nat} (hlo : 1 ≤ lo) (data : Nat) : SrtO.Srtd lexI ((rw1 lo mo data).map fun B => B.map fun x : Nat => (x : Int)) := by
  unfold SrtO.Srtd
  rw [List.pairwise_map, List.pairwise_iff_getElem]
  intro i j hi hj hij
  obtain ⟨v1, r1⟩ := rk_get hlo hi
  obtain ⟨v2, r2⟩ := rk_get hlo hj
  exact lexI_asym _ _ (rank_lex hlo v1 v2 (by omega))
theorem sort_rows {lo mo data : Nat} (hlo : 1 ≤ lo) {l : List (List Nat)} (p : l.Perm (rw1 lo mo data)) : fnD .sorted [.list (rwD l)] = some (.o (rwD (rw1 lo mo data))) := by
  rw [fn_sorted]
  cases l with
  | nil =>
    rw [List.Perm.eq_nil p.symm]
    rfl
  | cons B r =>
    have t1 : intsD (rwD (B :: r)) = none := rfl
    have t2 : ∀ l : List (List Nat), tupsD (rwD l) = some (l.map fun B => B.map fun x : Nat => (x : Int)) := by
      intro l
      induction l with
      | nil => rfl
      | cons B r ih =>
        have e : tupD (.tuple (natL B)) = some (B.map fun x : Nat => (x : Int)) := by
          show intsD (natL B) = _
          rw [natL_ints, intsD_map]
        show (tupD (.tuple (natL B))).bind _ = _
        rw [e]
        show (tupsD (rwD r)).bind _ = _
        rw [ih]
        rfl
    have ok : ((B :: r).map fun B => B.map fun x : Nat => (x : Int)).length ≤ 1 ∨ ((B :: r).map fun B => B.map fun x : Nat => (x : Int)).all (fun t => !t.isEmpty) = true := by
      by_cases hd : data = 0
      · subst hd
        have := p.length_eq
        refine .inl ?_
        rw [List.length_map, this]
        exact Nat.le_refl _
      · refine .inr (List.all_eq_true.mpr fun t ht => ?_)
        obtain ⟨C, hC, rfl⟩ := List.mem_map.mp ht
        obtain ⟨i, hi, rfl⟩ := List.mem_iff_getElem.mp (p.mem_iff.mp hC)
        obtain ⟨v, _⟩ := rk_get hlo hi
        cases e : (rw1 lo mo data)[i] with
        | nil =>
          rw [e] at v
          have := v.s
          simp at this
          omega
        | cons _ _ => rfl
    have s := sort_is swoT lexI_tot (srtd_rw1 (mo := mo) hlo data) ((p.symm).map fun B => B.map fun x : Nat => (x : Int))
    unfold sortD
    rw [t1, t2]
    simp only
    rw [if_pos ok, s, List.map_map]
    show some (Sl.o _) = _
    congr 2
    unfold rwD
    refine List.map_congr_left fun B _ => ?_
    show PyData.tuple _ = _
    rw [natL_ints]

/-! all rows, breadth first, by sums alone -/
def comp (lo mo data : Nat) (P : List Nat) : List (List Nat) := (rw1 lo mo (data - P.sum)).map fun B => P ++ B
def kidsA (lo mo data : Nat) (P : List Nat) : List (List Nat) := ((List.range (mo + 1 - lo)).filter fun j => decide (P.sum + (lo + j) ≤ data)).map fun j => P ++ [lo + j]
def lvlA (lo mo data : Nat) : Nat → List (List Nat)
  | 0 => [[]]
  | m + 1 => (lvlA lo mo data m).flatMap (kidsA lo mo data)
def dnA (lo mo data : Nat) : Nat → List (List Nat)
  | 0 => []
  | m + 1 => dnA lo mo data m ++ (lvlA lo mo data m).filter fun P => decide (P.sum = data)
theorem filter_flat {α β : Type} (p : α → Bool) (f : α → List β) : ∀ l : List α, (l.filter p).flatMap f = l.flatMap fun x => if p x = true then f x else []
  | [] => rfl
  | x :: r => by
    have ih := filter_flat p f r
    cases e : p x with
    | true => rw [List.filter_cons_of_pos e, List.flatMap_cons, List.flatMap_cons, ih, e, if_pos rfl]
    | false => rw [List.filter_cons_of_neg (by rw [e]; exact Bool.false_ne_true), List.flatMap_cons, ih, e, if_neg Bool.false_ne_true, List.nil_append]
theorem range_flat {β : Type} (f : Nat → List β) (a : Nat) : ∀ d, (∀ j, a ≤ j → j < a + d → f j = []) → (List.range (a + d)).flatMap f = (List.range a).flatMap f
  | 0, _ => rfl
  | d + 1, h => by
    rw [← Nat.add_assoc, List.range_succ, List.flatMap_append, range_flat f a d fun j h1 h2 => h j h1 (by omega), List.flatMap_cons, h (a + d) (by omega) (by omega)]
    simp
theorem flatMap_cg {α β : Type} {f g : α → List β} : ∀ {l : List α}, (∀ x ∈ l, f x = g x) → l.flatMap f = l.flatMap g
  | [], _ => rfl
  | x :: r, h => by rw [List.flatMap_cons, List.flatMap_cons, h x (by simp), flatMap_cg fun y hy => h y (List.mem_cons_of_mem _ hy)]
theorem comp_step {lo mo data : Nat} (hlo : 1 ≤ lo) {P : List Nat} (h : P.sum < data) : comp lo mo data P = (kidsA lo mo data P).flatMap (comp lo mo data) := by
  obtain ⟨k, hk⟩ : ∃ k, data - P.sum = k + 1 := ⟨data - P.sum - 1, by omega⟩
  unfold comp kidsA
  rw [hk, rw1_succ, List.flatMap_map, filter_flat]
  have e := range_flat (fun j => if decide (P.sum + (lo + j) ≤ data) = true then List.map (fun B => P ++ [lo + j] ++ B) (rw1 lo mo (data - (P ++ [lo + j]).sum)) else []) (min mo (k + 1) + 1 - lo) (mo + 1 - lo - (min mo (k + 1) + 1 - lo)) (fun j h1 h2 => by
    rw [if_neg]
    have : ¬ P.sum + (lo + j) ≤ data := by omega
    simpa using this)
  rw [show min mo (k + 1) + 1 - lo + (mo + 1 - lo - (min mo (k + 1) + 1 - lo)) = mo + 1 - lo by omega] at e
  rw [e]
  unfold rwS
  rw [List.map_flatMap]
  refine flatMap_cg fun j hj => ?_
  have hj := List.mem_range.mp hj
  have e1 : (rwT lo mo k).getD (k + 1 - (lo + j)) [] = rw1 lo mo (k + 1 - (lo + j)) := by
    rw [List.getD_eq_getElem?_getD, rwT_get lo mo k _ (by omega)]
    rfl
  have e2 : data - (P ++ [lo + j]).sum = k + 1 - (lo + j) := by
    rw [nsum_app]
    simp only [List.sum_cons, List.sum_nil]
    omega
  rw [e1, e2, List.map_map, if_pos (by
    have : P.sum + (lo + j) ≤ data := by omega
    simpa using this)]
  refine List.map_congr_left fun B _ => ?_
  show P ++ (lo + j) :: B = (P ++ [lo + j]) ++ B
  simp
theorem comp_end {lo mo data : Nat} {P : List Nat} (h : P.sum = data) : comp lo mo data P = [P] := by
  unfold comp
  rw [h, Nat.sub_self]
  show [P ++ []] = [P]
  rw [List.append_nil]
theorem kids_end {lo mo data : Nat} (hlo : 1 ≤ lo) {P : List Nat} (h : P.sum = data) : kidsA lo mo data P = [] := by
  unfold kidsA
  rw [List.filter_eq_nil_iff.mpr fun j _ => by
    have : ¬ P.sum + (lo + j) ≤ data := by omega
    simpa using this]
  rfl
theorem level_step {lo mo data : Nat} (hlo : 1 ≤ lo) : ∀ l : List (List Nat), (∀ P ∈ l, P.sum ≤ data) → (l.flatMap (comp lo mo data)).Perm (l.filter (fun P => decide (P.sum = data)) ++ (l.flatMap (kidsA lo mo data)).flatMap (comp lo mo data))
  | [], _ => .refl _
  | P :: l, h => by
    have ih := level_step (mo := mo) hlo l fun Q hQ => h Q (List.mem_cons_of_mem _ hQ)
    have hP := h P (by simp)
    rw [List.flatMap_cons, List.flatMap_cons, List.flatMap_append]
    by_cases e : P.sum = data
    · rw [comp_end e, kids_end hlo e, List.filter_cons_of_pos (by simpa using e)]
      exact ih.cons P
    · rw [comp_step hlo (by omega), List.filter_cons_of_neg (by simpa using e)]
      refine (ih.append_left _).trans ?_
      rw [← List.append_assoc, ← List.append_assoc]
      exact List.Perm.append_right _ List.perm_append_comm
theorem lvl_ok {lo mo data : Nat} (hlo : 1 ≤ lo) : ∀ m, ∀ P ∈ lvlA lo mo data m, P.sum ≤ data ∧ P.length = m ∧ m ≤ P.sum
  | 0, P, h => by
    rw [List.mem_singleton.mp h]
    simp
  | m + 1, P, h => by
    obtain ⟨Q, hQ, hP⟩ := List.mem_flatMap.mp h
    obtain ⟨j, hj, rfl⟩ := List.mem_map.mp hP
    obtain ⟨q1, q2, q3⟩ := lvl_ok hlo m Q hQ
    have hj := of_decide_eq_true (List.mem_filter.mp hj).2
    have es : (Q ++ [lo + j]).sum = Q.sum + (lo + j) := by
      rw [nsum_app]
      simp
    rw [es, List.length_append, q2]
    exact ⟨hj, rfl, by omega⟩
theorem lvl_perm {lo mo data : Nat} (hlo : 1 ≤ lo) : ∀ m, (dnA lo mo data m ++ (lvlA lo mo data m).flatMap (comp lo mo data)).Perm (rw1 lo mo data)
  | 0 => by
    show (([] : List (List Nat)) ++ ([[]] : List (List Nat)).flatMap (comp lo mo data)).Perm _
    rw [List.nil_append, List.flatMap_cons, List.flatMap_nil, List.append_nil]
    unfold comp
    rw [show (fun B : List Nat => ([] : List Nat) ++ B) = id from rfl, List.map_id]
    exact .refl _
  | m + 1 => by
    refine List.Perm.trans ?_ (lvl_perm hlo m)
    show (dnA lo mo data m ++ _ ++ _).Perm _
    rw [List.append_assoc]
    exact (level_step hlo _ fun P hP => (lvl_ok hlo m P hP).1).symm.append_left _
theorem lvl_end {lo mo data : Nat} (hlo : 1 ≤ lo) : lvlA lo mo data (data + 1) = [] := by
  refine List.eq_nil_iff_forall_not_mem.mpr fun P hP => ?_
  obtain ⟨h1, h2, h3⟩ := lvl_ok hlo _ P hP
  omega
theorem dn_perm {lo mo data : Nat} (hlo : 1 ≤ lo) : (dnA lo mo data (data + 1)).Perm (rw1 lo mo data) := by
  have h := lvl_perm (mo := mo) (data := data) hlo (data + 1)
  rw [lvl_end hlo, List.flatMap_nil, List.append_nil] at h
  exact h
theorem dn_len {lo mo data : Nat} (hlo : 1 ≤ lo) (m : Nat) : (dnA lo mo data m).length ≤ 2 ^ data := by
  have h1 := (lvl_perm (mo := mo) (data := data) hlo m).length_eq
  rw [List.length_append, (rw1_ok hlo data).1] at h1
  have := cN_le lo mo data
  omega
/-- how heavy a level is -/
def wtA (data : Nat) (l : List (List Nat)) : Nat := (l.map fun P => 2 ^ (data - P.sum)).sum
theorem wtA_app (data : Nat) (l m : List (List Nat)) : wtA data (l ++ m) = wtA data l + wtA data m := by
  unfold wtA
  rw [List.map_append, nsum_app]
theorem wt_kids {lo mo data : Nat} (hlo : 1 ≤ lo) (P : List Nat) (hP : P.sum ≤ data) : wtA data (kidsA lo mo data P) ≤ 2 ^ (data - P.sum) := by
  have key : ∀ n, wtA data (((List.range n).filter fun j => decide (P.sum + (lo + j) ≤ data)).map fun j => P ++ [lo + j]) + 2 ^ (data - P.sum + 1 - (lo + n)) ≤ 2 ^ (data - P.sum) := by
    intro n
    induction n with
    | zero =>
      show 0 + 2 ^ (data - P.sum + 1 - (lo + 0)) ≤ _
      rw [Nat.zero_add]
      exact Nat.pow_le_pow_right (by decide) (by omega)
    | succ n ih =>
      rw [List.range_succ, List.filter_append, List.map_append, wtA_app]
      by_cases e : P.sum + (lo + n) ≤ data
      · rw [List.filter_cons_of_pos (by simpa using e)]
        have e1 : wtA data (List.map (fun j => P ++ [lo + j]) (n :: List.filter (fun j => decide (P.sum + (lo + j) ≤ data)) [])) = 2 ^ (data - P.sum - (lo + n)) := by
          show 2 ^ (data - (P ++ [lo + n]).sum) + 0 = _
          rw [nsum_app]
          simp only [List.sum_cons, List.sum_nil, Nat.add_zero]
          congr 1
          omega
        have e2 : 2 ^ (data - P.sum + 1 - (lo + n)) = 2 * 2 ^ (data - P.sum - (lo + n)) := by
          rw [show data - P.sum + 1 - (lo + n) = (data - P.sum - (lo + n)) + 1 by omega, Nat.pow_succ, Nat.mul_comm]
        have e3 : data - P.sum + 1 - (lo + (n + 1)) = data - P.sum - (lo + n) := by omega
        rw [e1, e3]
        rw [e2] at ih
        omega
      · rw [List.filter_cons_of_neg (by simpa using e)]
        have e1 : wtA data (List.map (fun j => P ++ [lo + j]) (List.filter (fun j => decide (P.sum + (lo + j) ≤ data)) [])) = 0 := rfl
        have e3 : data - P.sum + 1 - (lo + (n + 1)) = data - P.sum + 1 - (lo + n) := by omega
        rw [e1, e3]
        exact ih
  unfold kidsA
  exact Nat.le_trans (Nat.le_add_right _ _) (key (mo + 1 - lo))
theorem wt_flat {lo mo data : Nat} (hlo : 1 ≤ lo) : ∀ l : List (List Nat), (∀ P ∈ l, P.sum ≤ data) → wtA data (l.flatMap (kidsA lo mo data)) ≤ wtA data l
  | [], _ => Nat.le_refl _
  | P :: r, h => by
    have ih := wt_flat (mo := mo) hlo r fun Q hQ => h Q (List.mem_cons_of_mem _ hQ)
    have := wt_kids (mo := mo) hlo P (h P (by simp))
    rw [List.flatMap_cons, wtA_app]
    show _ ≤ 2 ^ (data - P.sum) + wtA data r
    omega
theorem wt_lvl {lo mo data : Nat} (hlo : 1 ≤ lo) : ∀ m, wtA data (lvlA lo mo data m) ≤ 2 ^ data
  | 0 => by
    show 2 ^ (data - 0) + 0 ≤ _
    simp
  | m + 1 => Nat.le_trans (wt_flat hlo _ fun P hP => (lvl_ok hlo m P hP).1) (wt_lvl hlo m)
theorem wt_len (data : Nat) : ∀ l : List (List Nat), l.length ≤ wtA data l
  | [] => Nat.le_refl _
  | P :: r => by
    have ih := wt_len data r
    have : 0 < 2 ^ (data - P.sum) := Nat.pow_pos (by decide)
    rw [List.length_cons]
    show _ ≤ 2 ^ (data - P.sum) + wtA data r
    omega
theorem lvl_len {lo mo data : Nat} (hlo : 1 ≤ lo) (m : Nat) : (lvlA lo mo data m).length ≤ 2 ^ data := Nat.le_trans (wt_len data _) (wt_lvl hlo m)
--part
theorem foldl_filt {α β : Type} (p : α → Bool) (g : α → β) : ∀ (xs : List α) (L : List β), xs.foldl (fun L j => if p j = true then L ++ [g j] else L) L = L ++ (xs.filter p).map g
  | [], L => by simp
  | x :: r, L => by
    rw [List.foldl_cons, foldl_filt p g r]
    cases e : p x with
    | true => simp [e]
    | false => simp [e]
theorem foldl_app {α β : Type} (f : α → List β) : ∀ (xs : List α) (L : List β), xs.foldl (fun L x => L ++ f x) L = L ++ xs.flatMap f
  | [], L => by simp
  | x :: r, L => by rw [List.foldl_cons, foldl_app f r, List.flatMap_cons, List.append_assoc]
def rwSl (l : List (List Nat)) : Nat → Sl
  | 0 => .o (rwD l)
  | _ + 1 => .v (.list (rwD l))
theorem rwD_app (l m : List (List Nat)) : rwD (l ++ m) = rwD l ++ rwD m := List.map_append
theorem tup_end (P : List Nat) (r : Nat) : natL P ++ [.int (r : Int)] = natL (P ++ [r]) := natL_app P r
/-- one row of a level -/
theorem rowA_turn (n : Nat) (Y : PyData) {lo mo data : Nat} (hlo : 1 ≤ lo) (hmo : mo ≤ 1000) (hlo2 : lo ≤ 1000) (hd : data ≤ 1000) (b3 : ixD Y (.int 3) = some (.int (lo : Int))) (b4 : ixD Y (.int 4) = some (.int (mo : Int))) (D : List PyData) (L : List (List Nat)) (P : List Nat) (hPl : P.length ≤ 1000) (hL : L.length + (kidsA lo mo data P).length ≤ 100000) :
    ((En.put [some (.v Y), some (.v (.int (data : Int))), none, some (.o D), none, some (.o (rwD L)), none, none] 6 (.v (.tuple (natL P)))).bind fun en1 => (runB (runP cons FU defs n) cons FU qb14_1 en1).bind fun f => some (wipF [2, 4, 6, 7] f)) =
      some (.nx [some (.v Y), some (.v (.int (data : Int))), none, some (.o D), none, some (.o (rwD (L ++ kidsA lo mo data P))), none, none]) := by
  have su := sum_natT P
  have rg := rngO_n (i := lo) (j := (mo : Int) + 1) (n := mo + 1 - lo) (by omega) (by omega) (by omega) (by omega) (by omega)
  have inner : forD (fun d en => (en.put 7 (.v d)).bind fun en1 => (runB (runP cons FU defs n) cons FU qb14_0 en1).bind fun f => some (wipF [2, 4, 7] f)) (rngD (lo : Int) (mo + 1 - lo))
      [some (.v Y), some (.v (.int (data : Int))), none, some (.o D), none, some (.o (rwD L)), some (.v (.tuple (natL P))), none] =
      some (.nx [some (.v Y), some (.v (.int (data : Int))), none, some (.o D), none, some (.o (rwD (L ++ kidsA lo mo data P))), some (.v (.tuple (natL P))), none]) := by
    have g := forD_fold (body := fun d en => (en.put 7 (.v d)).bind fun en1 => (runB (runP cons FU defs n) cons FU qb14_0 en1).bind fun f => some (wipF [2, 4, 7] f))
      (fun L' : List (List Nat) => [some (.v Y), some (.v (.int (data : Int))), none, some (.o D), none, some (.o (rwD L')), some (.v (.tuple (natL P))), none])
      (fun j : Nat => PyData.int ((lo : Int) + (j : Int))) (fun L' j => if decide (P.sum + (lo + j) ≤ data) = true then L' ++ [P ++ [lo + j]] else L')
      (fun L' xs => L'.length + xs.length ≤ 200000) (List.range (mo + 1 - lo)) L (by rw [List.length_range]; omega) (by
        rintro L' j r h2
        rw [List.length_cons] at h2
        have te := tup_end P (lo + j)
        rw [Int.natCast_add] at te
        have zl : (rwD L').length < sizeLine := by rw [rwD_len, line_is]; omega
        have ap : rwD L' ++ [.tuple (natL (P ++ [lo + j]))] = rwD (L' ++ [P ++ [lo + j]]) := by rw [rwD_app]; rfl
        have ad : binD .Add (.tuple (natL P)) (.tuple [.int ((lo : Int) + (j : Int))]) = some (.v (.tuple (natL (P ++ [lo + j])))) := by
          rw [add_tt (by rw [natL_len, List.length_singleton, line_is]; omega), te]
        refine ⟨?_, by split <;> (try rw [List.length_append, List.length_singleton]) <;> omega⟩
        have c : (((P.sum : Nat) : Int) + ((lo : Int) + (j : Int)) ≤ (data : Int)) ↔ P.sum + (lo + j) ≤ data := by omega
        by_cases z : P.sum + (lo + j) ≤ data
        · rw [decide_eq_true z, if_pos rfl, ← ap]
          have z' := c.mpr z
          generalize natL (P ++ [lo + j]) = Z2 at *
          generalize natL P = Z at *
          generalize rwD L' = W at *
          generalize ((P.sum : Nat) : Int) = S at *
          simp [-fn_sum_t, qb14_0, su, z', ad, runE_mt, mtD, zl]
        · rw [decide_eq_false z, if_neg Bool.false_ne_true]
          have z' : ¬ ((P.sum : Nat) : Int) + ((lo : Int) + (j : Int)) ≤ (data : Int) := fun y => z (c.mp y)
          generalize natL P = Z at *
          generalize rwD L' = W at *
          generalize ((P.sum : Nat) : Int) = S at *
          simp [-fn_sum_t, qb14_0, su, z'])
    rw [rngD_map]
    refine g.trans ?_
    rw [foldl_filt]
    rfl
  generalize rwD (L ++ kidsA lo mo data P) = K2 at *
  generalize rngD (lo : Int) (mo + 1 - lo) = RR at *
  generalize natL P = Z at *
  generalize rwD L = RL at *
  simp [qb14_1, b3, b4, rg, runS_for, inner]
theorem allrows_at (n : Nat) (Y : PyData) {lo mo data : Nat} (hlo : 1 ≤ lo) (hmo : mo ≤ 1000) (hlo2 : lo ≤ 1000) (hd : data ≤ 14) (b3 : ixD Y (.int 3) = some (.int (lo : Int))) (b4 : ixD Y (.int 4) = some (.int (mo : Int))) : runP cons FU defs (n + 1) 14 [.v Y, .v (.int (data : Int))] = some (.o (rwD (rw1 lo mo data)), []) := by
  have p14 : 2 ^ data ≤ 16384 := Nat.le_trans (Nat.pow_le_pow_right (by decide) hd) (by decide)
  have LL := fun m => Nat.le_trans (lvl_len (mo := mo) (data := data) hlo m) p14
  have DL := fun m => Nat.le_trans (dn_len (mo := mo) (data := data) hlo m) p14
  obtain ⟨e, f, rfl⟩ := forD_rng (body := fun d en => (en.put 4 (.v d)).bind fun en1 => (runB (runP cons FU defs n) cons FU qb14_2 en1).bind fun f => some (wipF [4, 5, 6, 7] f))
    (fun m e => e = [some (.v Y), some (.v (.int (data : Int))), some (rwSl (lvlA lo mo data m) m), some (.o (rwD (dnA lo mo data m))), none, none, none, none]) 0 (data + 1)
    [some (.v Y), some (.v (.int (data : Int))), some (.o [.tuple []]), some (.o []), none, none, none, none] rfl (by
      rintro m hm e rfl
      refine ⟨_, ?_, rfl⟩
      have lk := lvl_ok (lo := lo) (mo := mo) (data := data) hlo m
      have l1 := LL m
      have l2 := LL (m + 1)
      have d1 := DL (m + 1)
      have d2 : (dnA lo mo data (m + 1)).length = (dnA lo mo data m).length + ((lvlA lo mo data m).filter fun P => decide (P.sum = data)).length := by
        show (dnA lo mo data m ++ (lvlA lo mo data m).filter fun P => decide (P.sum = data)).length = _
        rw [List.length_append]
      have cm : ∀ (s2 : Sl), compD (lcTurn (runP cons FU defs n) cons [("_law_row", 6)] (.n 6) (.e (.cmp .Eq (.fn .sum (.cons (.x 6) .nil)) (.x 1))) (.x 6)) ((lvlA lo mo data m).map fun P => PyData.tuple (natL P)) [some (.v Y), some (.v (.int (data : Int))), some s2, some (.o (rwD (dnA lo mo data m))), some (.v (.int (0 + (m : Int)))), none, none, none] =
          some (((lvlA lo mo data m).filter fun P => decide (P.sum = data)).map fun P => PyData.tuple (natL P), [some (.v Y), some (.v (.int (data : Int))), some s2, some (.o (rwD (dnA lo mo data m))), some (.v (.int (0 + (m : Int)))), none, none, none]) := fun s2 =>
        compD_filt (turn := lcTurn (runP cons FU defs n) cons [("_law_row", 6)] (.n 6) (.e (.cmp .Eq (.fn .sum (.cons (.x 6) .nil)) (.x 1))) (.x 6)) (fun P : List Nat => PyData.tuple (natL P)) (fun P => decide (P.sum = data)) (fun P => PyData.tuple (natL P)) _ (lvlA lo mo data m) (fun P hP => by
          have su := sum_natT P
          by_cases z : P.sum = data
          · rw [z] at su
            generalize natL P = Z at *
            generalize rwD (dnA lo mo data m) = W at *
            simp [-fn_sum_t, lcTurn, wipeE, su, z]
          · have z' : ¬ ((P.sum : Nat) : Int) = (data : Int) := by omega
            generalize natL P = Z at *
            generalize rwD (dnA lo mo data m) = W at *
            generalize ((P.sum : Nat) : Int) = S at *
            simp [-fn_sum_t, lcTurn, wipeE, su, z, z'])
      have g := forD_fold (body := fun d en => (en.put 6 (.v d)).bind fun en1 => (runB (runP cons FU defs n) cons FU qb14_1 en1).bind fun f => some (wipF [2, 4, 6, 7] f))
        (fun L : List (List Nat) => [some (.v Y), some (.v (.int (data : Int))), none, some (.o (rwD (dnA lo mo data (m + 1)))), none, some (.o (rwD L)), none, none])
        (fun P : List Nat => PyData.tuple (natL P)) (fun L P => L ++ kidsA lo mo data P)
        (fun L xs => (∀ P ∈ xs, P.length ≤ 1000) ∧ L.length + (xs.flatMap (kidsA lo mo data)).length ≤ 20000) (lvlA lo mo data m) []
        ⟨fun P hP => by have := lk P hP; omega, by show 0 + (lvlA lo mo data (m + 1)).length ≤ 20000; omega⟩ (by
          rintro L P r ⟨h1, h3⟩
          rw [List.flatMap_cons, List.length_append] at h3
          refine ⟨rowA_turn n Y hlo hmo hlo2 (by omega) b3 b4 _ L P (h1 P (by simp)) (by omega), fun Q hQ => h1 Q (List.mem_cons_of_mem _ hQ), ?_⟩
          rw [List.length_append]
          omega)
      rw [foldl_app, List.nil_append] at g
      have g : forD _ (rwD (lvlA lo mo data m)) _ = _ := g
      have cm : ∀ s2 : Sl, compD _ (rwD (lvlA lo mo data m)) _ = some (rwD ((lvlA lo mo data m).filter fun P => decide (P.sum = data)), _) := cm
      have ek : (lvlA lo mo data m).flatMap (kidsA lo mo data) = lvlA lo mo data (m + 1) := rfl
      rw [ek] at g
      have ed : rwD (dnA lo mo data m) ++ rwD ((lvlA lo mo data m).filter fun P => decide (P.sum = data)) = rwD (dnA lo mo data (m + 1)) := (rwD_app _ _).symm
      have e0 : rwD [] = [] := rfl
      have zl : (rwD (dnA lo mo data m)).length + (rwD ((lvlA lo mo data m).filter fun P => decide (P.sum = data))).length ≤ sizeLine := by
        rw [rwD_len, rwD_len, line_is]
        omega
      have zc : (rwD ((lvlA lo mo data m).filter fun P => decide (P.sum = data))).length ≤ sizeLine := by omega
      simp only [e0] at g
      generalize (0 : Int) + (m : Int) = T at *
      show _ = some (Fl.nx [_, _, some (.v (.list (rwD (lvlA lo mo data (m + 1))))), some (.o (rwD (dnA lo mo data (m + 1)))), none, none, none, none])
      rw [← ed] at g ⊢
      generalize rwD ((lvlA lo mo data m).filter fun P => decide (P.sum = data)) = Q5 at *
      generalize rwD (lvlA lo mo data (m + 1)) = Q4 at *
      generalize rwD (dnA lo mo data m) = Q1 at *
      cases m with
      | zero =>
        unfold rwSl
        generalize rwD (lvlA lo mo data 0) = Q2 at *
        simp [qb14_2, runS_for, runE_mt, mtD, runE_lc, noOwn, wipeE, backE, cm, g, zl, zc]
      | succ m =>
        unfold rwSl
        generalize rwD (lvlA lo mo data (m + 1)) = Q2 at *
        simp [qb14_2, runS_for, runE_mt, mtD, runE_lc, noOwn, wipeE, backE, cm, g, zl, zc])
  have rg := rngO_n (i := 0) (j := (data : Int) + 1) (n := data + 1) (by decide) (by decide) (by omega) (by omega) (by omega)
  have so := sort_rows hlo (dn_perm (mo := mo) (data := data) hlo)
  rw [at_def qd14 rfl rfl]
  generalize rwD (dnA lo mo data (data + 1)) = Q1 at *
  generalize rwD (rw1 lo mo data) = Q2 at *
  simp [-fn_sorted, qd14, qb14, startE_eq, List.replicate_succ, runS_for, rg, f, so]

--part
def rowD (rs : List Nat) : PyData := .tuple (rs.map fun r : Nat => .int r)
theorem cells_at (n : Nat) (rs : List Nat) (hl : rs.length ≤ 1000) : runP cons FU defs (n + 1) 0 [.v (rowD rs)] = some (.v (rowD (csum 0 rs)), []) := by
  have key : ∀ (rs l : List Nat) (m : Nat), l.length + rs.length ≤ 1000 → forD (fun d en => (en.put 2 (.v d)).bind fun en1 => (runB (runP cons FU defs n) cons FU qb0_0 en1).bind fun f => some (wipF [0, 2] f)) (rs.map fun r : Nat => PyData.int r) [none, some (.o ((l ++ [m]).map fun r : Nat => PyData.int r)), none] =
      some (.nx [none, some (.o ((l ++ csum m rs).map fun r : Nat => PyData.int r)), none]) := by
    intro rs
    induction rs with
    | nil => intro l m _; rfl
    | cons r s ih =>
      intro l m hl
      simp only [List.length_cons] at hl
      have a : atI ((l ++ [m]).map fun r : Nat => PyData.int r) (-1) = some (.int m) := by
        rw [List.map_append]
        have h1 : (1 : Int) ≤ ((l.map fun r : Nat => PyData.int r).length : Int) + 1 := by omega
        have h2 : (-1 + (((l.map fun r : Nat => PyData.int r).length : Int) + 1)).toNat = (l.map fun r : Nat => PyData.int r).length := by omega
        generalize (l.map fun r : Nat => PyData.int r) = L at *
        unfold atI ixN
        simp [h1, h2]
      have z : ((l ++ [m]).map fun r : Nat => PyData.int r).length < sizeLine := by rw [List.length_map, line_is]; simp; omega
      have e : ((l ++ [m]).map fun r : Nat => PyData.int r) ++ [.int ((m : Int) + r)] = ((l ++ [m] ++ [m + r]).map fun r : Nat => PyData.int r) := by simp
      have ih := ih (l ++ [m]) (m + r) (by simp; omega)
      rw [← e] at ih
      have e3 : l ++ csum m (r :: s) = l ++ [m] ++ csum (m + r) s := by simp [csum]
      rw [e3]
      rw [← ih]
      generalize ((l ++ [m]).map fun r : Nat => PyData.int r) = L at *
      show (((En.put _ 2 _).bind _).bind _) = _
      simp only [put_1, nb_n, put_0, Option.map_some, Option.bind_some]
      simp [qb0_0, runE_mt, mtD, a, z]
  have f := key rs [] 0 (by simpa using hl)
  have f : forD (fun d en => (en.put 2 (.v d)).bind fun en1 => (runB (runP cons FU defs n) cons FU qb0_0 en1).bind fun f => some (wipF [0, 2] f)) (rs.map fun r : Nat => PyData.int r) [none, some (.o [.int 0]), none] = some (.nx [none, some (.o ((csum 0 rs).map fun r : Nat => PyData.int r)), none]) := f
  rw [at_def qd0 rfl rfl]
  simp [qd0, qb0, startE_eq, List.replicate_succ, rowD, runS_for, f]

theorem runsY_at (n : Nat) (b : Bag) (k : Nat) (hb : b.Ok k) (hk : k ≤ 10 ^ 7) (Y : PyData) (lo mo : Nat) (l1 : lo ≤ mo) (l2 : mo ≤ 1000) (b3 : ixD Y (.int 3) = some (.int (lo : Int))) (b4 : ixD Y (.int 4) = some (.int (mo : Int))) (m : Nat) (hm : m ≤ 100) : ∃ (rs : List Nat) (b' : Bag), runP cons FU defs (n + 3) 12 [.b b.d, .v Y, .v (.int m)] = some (.v (.tuple (rs.map fun r : Nat => .int r)), b'.d) ∧ rs.length = m ∧ (∀ r ∈ rs, lo ≤ r ∧ r ≤ mo) ∧ b'.Ok (k + m + 2) := by
  obtain ⟨r1, b1, q1, g1, h1, k1⟩ := take_at (n + 1) b 4 k hb (by omega) (by decide) (by decide)
  have rg := rngO_n (i := 0) (j := (m : Int)) (n := m) (by omega) (by omega) (by omega) (by omega) (by omega)
  have zm : m ≤ sizeLine := by rw [line_is]; omega
  by_cases w0 : r1 = 0
  · subst w0
    obtain ⟨i, b2, q2, m2, k2⟩ := some_int n b1 [(lo : Int), mo] _ k1 (by omega) (by simp) (by simp)
    obtain ⟨r, rfl, hr⟩ : ∃ r : Nat, i = r ∧ lo ≤ r ∧ r ≤ mo := by
      simp only [List.mem_cons, List.not_mem_nil, or_false] at m2
      rcases m2 with rfl | rfl
      · exact ⟨_, rfl, by omega⟩
      · exact ⟨_, rfl, by omega⟩
    simp only [List.map_cons, List.map_nil] at q2
    have rp := rep_t (.int r) m (by omega)
    refine ⟨List.replicate m r, b2, ?_, by simp, fun x hx => by rw [List.eq_of_mem_replicate hx]; exact hr, k2.mono (by omega)⟩
    rw [at_def qd12 rfl rfl]
    simp [qd12, qb12, b3, b4, startE_eq, List.replicate_succ, q1, q2, rp]
  · by_cases w1 : r1 = 1
    · subst w1
      have c := compD_mapF (turn := lcTurn (runP cons FU defs (n + 2)) cons [("_law_k", 6)] (.n 6) .yes (.ife (.e (.cmp .Eq (.x 6) (.bin .Mult (.bin .FloorDiv (.x 6) (.k (.int 2))) (.k (.int 2))))) (.x 4) (.x 3))) (fun i : Nat => PyData.int (0 + i)) (fun i => .int ((if i = i / 2 * 2 then mo else lo : Nat) : Int))
        [some (.b b1.d), some (.v Y), some (.v (.int m)), some (.v (.int lo)), some (.v (.int mo)), some (.v (.int 1)), none] (List.range m) (fun i hi => by
          rw [List.mem_range] at hi
          have fd : binD .FloorDiv (.int (0 + (i : Int))) (.int 2) = some (.v (.int ((0 + (i : Int)) / 2))) := fdivB (by decide) (by decide)
          have mm : binD .Mult (.int ((0 + (i : Int)) / 2)) (.int 2) = some (.v (.int ((0 + (i : Int)) / 2 * 2))) := mulB (by omega) (by decide)
          have e : (0 + (i : Int) = (0 + (i : Int)) / 2 * 2) ↔ i = i / 2 * 2 := by omega
          by_cases hc : i = i / 2 * 2
          · have hc2 := e.mpr hc
            simp only [Int.zero_add] at *
            simp [lcTurn, fd, mm, ← hc2, ← hc, wipeE]
          · have hc2 : ¬ ((0 + (i : Int)) = (0 + (i : Int)) / 2 * 2) := fun z => hc (e.mp z)
            simp only [Int.zero_add] at *
            simp [lcTurn, fd, mm, hc2, hc, wipeE])
      rw [← rngD_map] at c
      refine ⟨(List.range m).map fun i => if i = i / 2 * 2 then mo else lo, b1, ?_, by simp, fun x hx => ?_, k1.mono (by omega)⟩
      · have e2 : ((List.range m).map fun i => PyData.int ((if i = i / 2 * 2 then mo else lo : Nat) : Int)) = ((List.range m).map fun i => if i = i / 2 * 2 then mo else lo).map fun r : Nat => PyData.int r := by rw [List.map_map]; rfl
        rw [e2] at c
        have hlen : ((List.range m).map fun i => if i = i / 2 * 2 then mo else lo).length = m := by simp
        generalize ((List.range m).map fun i => if i = i / 2 * 2 then mo else lo) = L at *
        have zl : L.length ≤ sizeLine := by rw [hlen]; exact zm
        rw [at_def qd12 rfl rfl]
        simp [qd12, qb12, b3, b4, startE_eq, List.replicate_succ, q1, rg, runE_lc, noOwn, wipeE, backE, c, zl]
      · obtain ⟨i, _, rfl⟩ := List.mem_map.mp hx
        split <;> omega
    · obtain ⟨ys, e', e, p1, p2, b', hb', rfl⟩ := compD_keep (turn := lcTurn (runP cons FU defs (n + 2)) cons [("_law_k", 6)] (.n 6) .yes (.bin .Add (.x 3) (.call 6 (.io 0 (.cons (.bin .Add (.bin .Sub (.x 4) (.x 3)) (.k (.int 1))) .nil))))) (fun i e => ∃ b' : Bag, b'.Ok (k + 1 + i) ∧ e = [some (.b b'.d), some (.v Y), some (.v (.int m)), some (.v (.int lo)), some (.v (.int mo)), some (.v (.int r1)), none])
        (fun d => ∃ r : Nat, d = .int r ∧ lo ≤ r ∧ r ≤ mo) (rngD 0 m) 0 [some (.b b1.d), some (.v Y), some (.v (.int m)), some (.v (.int lo)), some (.v (.int mo)), some (.v (.int r1)), none] ⟨b1, k1, rfl⟩ (by
          rintro i hi e ⟨b2, hb2, rfl⟩
          rw [rngD_len] at hi
          obtain ⟨r, b3, q, g, hh, k3⟩ := take_at (n + 1) b2 ((mo : Int) - lo + 1) _ hb2 (by omega) (by omega) (by omega)
          refine ⟨.int (lo + r), _, ?_, ⟨lo + r.toNat, by congr 1; omega, by omega, by omega⟩, b3, k3.mono (by omega), rfl⟩
          simp [lcTurn, q, wipeE])
      have key : ∀ ys : List PyData, (∀ y ∈ ys, ∃ r : Nat, y = .int r ∧ lo ≤ r ∧ r ≤ mo) → ∃ rs : List Nat, ys = (rs.map fun r : Nat => PyData.int r) ∧ ∀ r ∈ rs, lo ≤ r ∧ r ≤ mo := by
        intro ys
        induction ys with
        | nil => intro _; exact ⟨[], rfl, by simp⟩
        | cons y r ih =>
          intro h
          obtain ⟨p, rfl, hp⟩ := h y (by simp)
          obtain ⟨ps, rfl, h2⟩ := ih fun z hz => h z (List.mem_cons_of_mem _ hz)
          exact ⟨p :: ps, rfl, fun q hq => by
            rcases List.mem_cons.mp hq with rfl | hq
            · exact hp
            · exact h2 q hq⟩
      obtain ⟨rs, rfl, hrs⟩ := key ys p1
      rw [rngD_len] at p2
      rw [List.length_map] at p2
      rw [Nat.zero_add, rngD_len] at hb'
      refine ⟨rs, b', ?_, p2, hrs, hb'.mono (by omega)⟩
      have zl : rs.length ≤ sizeLine := by rw [p2]; exact zm
      rw [at_def qd12 rfl rfl]
      simp [qd12, qb12, b3, b4, startE_eq, List.replicate_succ, q1, w0, w1, rg, runE_lc, noOwn, wipeE, backE, e, zl]

theorem leaf10 {i : Int} (h : i.natAbs < 10 ^ 9) : (PyData.shown (.int i)).length ≤ 10 := by
  have h1 := int_text_length_le10 (k := 9) (by decide) h
  show (Str.ofString (toString i)).length ≤ 10
  rw [Str.ofString_eq_toList]
  show (Array.size _) ≤ 10
  simp only [List.size_toArray, List.length_map]
  have : (toString i).toList.length = (toString i).length := rfl
  omega
theorem leaf_nat : ∀ l : List Nat, (∀ x ∈ l, x ≤ 1000) → PyData.leavesShortAll 10 (natL l) = true
  | [], _ => rfl
  | x :: r, h => by
    have h1 := leaf10 (i := (x : Int)) (by have := h x (by simp); omega)
    have h2 := leaf_nat r fun y hy => h y (List.mem_cons_of_mem _ hy)
    show (PyData.leavesShort 10 (.int (x : Int)) && PyData.leavesShortAll 10 (natL r)) = true
    rw [h2, Bool.and_true]
    exact decide_eq_true h1
theorem sm_natB (l : List Nat) (h : ∀ x ∈ l, x ≤ 10000) : Sm 1 l.length (.tuple (natL l)) := by
  have := Sm.tup (k := 0) (b := 0) (xs := natL l) (fun x hx => by
    obtain ⟨a, ha, rfl⟩ := List.mem_map.mp hx
    exact Sm.int (by have := h a ha; omega) _ _)
  rw [natL_len] at this
  exact this.mono (Nat.le_refl _) (by omega)
theorem alk_rows {lo mo data : Nat} (hlo : 1 ≤ lo) (hmo : mo ≤ 16) (hd : data ≤ 14) : Alk2 (.list (rwD (rw1 lo mo data))) := by
  have row : ∀ B ∈ rw1 lo mo data, (∀ x ∈ B, x ≤ 1000) ∧ B.length ≤ data := fun B hB => by
    obtain ⟨i, hi, rfl⟩ := List.mem_iff_getElem.mp hB
    obtain ⟨v, _⟩ := rk_get hlo hi
    exact ⟨fun x hx => by have := (v.r x hx).2; omega, rw1_len hlo (List.getElem_mem hi)⟩
  have s := Sm.lst (k := 1) (b := data) (xs := rwD (rw1 lo mo data)) (fun x hx => by
    obtain ⟨B, hB, rfl⟩ := List.mem_map.mp hx
    obtain ⟨h1, h2⟩ := row B hB
    exact (sm_natB _ fun x hx => by have := h1 x hx; omega).mono (by decide) h2)
  rw [rwD_len, (rw1_ok hlo data).1] at s
  have p14 : cN lo mo data ≤ 16384 := Nat.le_trans (cN_le lo mo data) (Nat.le_trans (Nat.pow_le_pow_right (by decide) hd) (by decide))
  have bk : cN lo mo data * (data + 1) ≤ 16384 * 15 := Nat.mul_le_mul p14 (by omega)
  obtain ⟨a1, a2, a3, a4, a5⟩ := sml_lay _ s.s
  have lf : ∀ l : List (List Nat), (∀ B ∈ l, ∀ x ∈ B, x ≤ 1000) → PyData.leavesShortAll 10 (rwD l) = true := by
    intro l
    induction l with
    | nil => intro _; rfl
    | cons B r ih =>
      intro h
      show (PyData.leavesShort 10 (.tuple (natL B)) && PyData.leavesShortAll 10 (rwD r)) = true
      rw [ih fun C hC => h C (List.mem_cons_of_mem _ hC), Bool.and_true]
      exact leaf_nat B (h B (by simp))
  have ln := PyData.shown_le_bulk 10 (by decide) (.list (rwD (rw1 lo mo data))) (lf _ fun B hB => (row B hB).1)
  have sb := s.b
  have sk := s.k
  refine ⟨a1, a2, by omega, ?_, ok_show _ a4⟩
  have : (16777216 : Nat) = sizeLine := rfl
  omega
--part
/-! one row -/
theorem csum_rng (rs : List Nat) : csum 0 rs = (List.range (rs.length + 1)).map fun i => (rs.take i).sum := by
  refine List.ext_getElem? fun i => ?_
  rw [List.getElem?_map]
  by_cases h : i ≤ rs.length
  · rw [csum_get rs 0 i h, List.getElem?_range (by omega), Nat.zero_add]
    rfl
  · rw [List.getElem?_eq_none (by rw [csum_len]; omega), List.getElem?_eq_none (by rw [List.length_range]; omega)]
    rfl
def iniL (rs : List Nat) : List Nat := (List.range rs.length).map fun i => (rs.take i).sum
def backL (rs : List Nat) : List Nat := (List.range rs.length).map fun i => rs.sum - (rs.take i).sum
theorem csum_ini (rs : List Nat) : csum 0 rs = iniL rs ++ [rs.sum] := by
  rw [csum_rng, List.range_succ, List.map_append]
  unfold iniL
  simp
theorem dist_is (rs : List Nat) : (csum 0 rs.reverse).drop 1 = (backL rs).reverse := by
  refine List.ext_getElem? fun i => ?_
  rw [List.getElem?_drop]
  by_cases h : i < rs.length
  · rw [csum_get rs.reverse 0 (1 + i) (by rw [List.length_reverse]; omega), List.getElem?_reverse (by unfold backL; rw [List.length_map, List.length_range]; exact h)]
    unfold backL
    rw [List.getElem?_map, List.length_map, List.length_range, List.getElem?_range (by omega), take_rev_nsum]
    show some _ = some _
    congr 1
    rw [Nat.zero_add]
    congr 3
    omega
  · rw [List.getElem?_eq_none (by rw [csum_len, List.length_reverse]; omega), List.getElem?_eq_none (by unfold backL; rw [List.length_reverse, List.length_map, List.length_range]; omega)]
theorem take_mono (l : List Nat) {i j : Nat} (h : i ≤ j) : (l.take i).sum ≤ (l.take j).sum := by
  have := sum_take_le (l.take j) i
  rwa [List.take_take, Nat.min_eq_left h] at this
theorem totI : ∀ a b : Int, decide (a < b) = false → decide (b < a) = false → a = b := fun a b h1 h2 => by
  have := of_decide_eq_false h1
  have := of_decide_eq_false h2
  omega
theorem sort_back (rs : List Nat) : fnD .sorted [.list (natL (backL rs))] = some (.o (natL (backL rs).reverse)) := by
  rw [fn_sorted]
  unfold sortD
  rw [natL_ints, intsD_map]
  simp only
  have s : SrtO.Srtd (fun a b : Int => decide (a < b)) ((backL rs).reverse.map fun c : Nat => (c : Int)) := by
    unfold SrtO.Srtd
    rw [List.pairwise_map, List.pairwise_reverse]
    unfold backL
    rw [List.pairwise_map]
    refine List.pairwise_lt_range.imp fun {i j} h => ?_
    refine decide_eq_false ?_
    have h1 := take_mono rs (Nat.le_of_lt h)
    have h2 := sum_take_le rs j
    omega
  rw [sort_is swoI totI s ((List.reverse_perm _).map _), natL_ints]
  rfl
theorem turned_is (rs : List Nat) : (List.range rs.length).map (fun k => PyData.int ((rs.getD (rs.length - 1 - k) 0 : Nat) : Int)) = natL rs.reverse := by
  unfold natL
  refine List.ext_getElem? fun i => ?_
  rw [List.getElem?_map, List.getElem?_map]
  by_cases h : i < rs.length
  · rw [List.getElem?_range h, List.getElem?_reverse h, List.getElem?_eq_getElem (by omega)]
    simp only [Option.map_some]
    rw [List.getD_eq_getElem?_getD, List.getElem?_eq_getElem (by omega)]
    rfl
  · rw [List.getElem?_eq_none (by rw [List.length_range]; omega), List.getElem?_eq_none (by rw [List.length_reverse]; omega)]
    rfl
theorem fold_csum : ∀ (rs l : List Nat) (m : Nat), (rs.foldl (fun (s : List Nat × Nat) r => (s.1 ++ [s.2], s.2 + r)) (l, m)).1 ++ [(rs.foldl (fun (s : List Nat × Nat) r => (s.1 ++ [s.2], s.2 + r)) (l, m)).2] = l ++ csum m rs
  | [], l, m => rfl
  | r :: s, l, m => by
    rw [List.foldl_cons, fold_csum s (l ++ [m]) (m + r), List.append_assoc]
    rfl
theorem foldl_snoc {α β : Type} (f : α → β) : ∀ (xs : List α) (L : List β), xs.foldl (fun L x => L ++ [f x]) L = L ++ xs.map f
  | [], L => by simp
  | x :: r, L => by rw [List.foldl_cons, foldl_snoc f r, List.map_cons, List.append_assoc]; rfl
theorem at_lastN (l : List Nat) (x : Nat) : atI (natL (l ++ [x])) (-1) = some (.int (x : Int)) := by
  have e : natL (l ++ [x]) = natL l ++ [.int (x : Int)] := by simp [natL]
  have h : ixN (natL l ++ [PyData.int (x : Int)]).length (-1) = some (natL l).length := by
    unfold ixN
    simp
    omega
  unfold atI
  rw [e, h]
  simp
theorem cut_init (l : List Nat) (x : Nat) : cutL (natL (l ++ [x])) none (some (-1)) = natL l := by
  have e : natL (l ++ [x]) = natL l ++ [.int (x : Int)] := by simp [natL]
  rw [e]
  unfold cutL HT.sIx
  simp only [show ((-1 : Int) < 0) by omega, if_true, Nat.sub_zero, List.drop_zero, List.length_append, List.length_singleton]
  rw [show (-1 + (((natL l).length + 1 : Nat) : Int)).toNat = (natL l).length by omega, List.take_left]
--part
theorem mirrored_at (n : Nat) (rs : List Nat) : runP cons FU defs (n + 1) 2 [.v (rowD rs)] = some (.v (rowD rs.reverse), []) := by
  have e : rvD (rowD rs) = some (.v (rowD rs.reverse)) := by
    unfold rowD
    rw [List.map_reverse]
    rfl
  rw [at_def qd2 rfl rfl]
  generalize rowD rs = R at *
  generalize rowD rs.reverse = R2 at *
  simp [qd2, qb2, startE_eq, List.replicate_succ, e]
theorem dist_at (n : Nat) (rs : List Nat) (hl : rs.length ≤ 1000) : runP cons FU defs (n + 2) 3 [.v (rowD rs)] = some (.v (.tuple (natL (backL rs).reverse)), []) := by
  have q1 := mirrored_at n rs
  have q2 := cells_at n rs.reverse (by rw [List.length_reverse]; exact hl)
  have e : slD (rowD (csum 0 rs.reverse)) (some 1) none = some (.v (.tuple (natL (backL rs).reverse))) := by
    show some (Sl.v (.tuple (cutL _ (some ((1 : Nat) : Int)) none))) = _
    rw [cut_lo, ← dist_is]
    unfold natL
    rw [List.map_drop]
  rw [at_def qd3 rfl rfl]
  generalize rowD rs = R at *
  generalize rowD rs.reverse = R2 at *
  generalize rowD (csum 0 rs.reverse) = R3 at *
  simp [qd3, qb3, startE_eq, List.replicate_succ, q1, q2, e]
theorem length_at (n : Nat) (rs : List Nat) : runP cons FU defs (n + 1) 1 [.v (rowD rs)] = some (.v (.int ((rs.sum : Nat) : Int)), []) := by
  have su := sum_natT rs
  have e : rowD rs = .tuple (natL rs) := rfl
  rw [e, at_def qd1 rfl rfl]
  generalize natL rs = R at *
  simp [-fn_sum_t, qd1, qb1, startE_eq, List.replicate_succ, su]
theorem rowright_at (n : Nat) (rs : List Nat) (hl : rs.length ≤ 100) (hr : ∀ r ∈ rs, r ≤ 50) : runP cons FU defs (n + 3) 15 [.v (rowD rs)] = some (.v (.bool true), []) := by
  have c1 := cells_at (n + 1) rs (by omega)
  have c2 := length_at (n + 1) rs
  have c3 := dist_at n rs (by omega)
  have c4 := mirrored_at (n + 1) rs
  have sb : rs.sum ≤ 50 * rs.length := by
    clear c1 c2 c3 c4 hl
    induction rs with
    | nil => simp
    | cons x r ih =>
      have := hr x (by simp)
      have := ih fun y hy => hr y (List.mem_cons_of_mem _ hy)
      simp only [List.sum_cons, List.length_cons]
      omega
  have L1 := forD_fold (body := fun d en => (en.put 3 (.v d)).bind fun en1 => (runB (runP cons FU defs (n + 2)) cons FU qb15_1 en1).bind fun f => some (wipF [3, 4, 5, 6] f))
    (fun s : List Nat × Nat => [some (.v (rowD rs)), some (.o (natL (s.1 ++ [s.2]))), some (.o []), none, none, none, none]) (fun r : Nat => PyData.int (r : Int)) (fun s r => (s.1 ++ [s.2], s.2 + r)) (fun s xs => s.1.length + xs.length ≤ 200) rs ([], 0) (by show 0 + rs.length ≤ 200; omega) (by
      rintro ⟨l, m⟩ r xs h
      simp only [List.length_cons] at h
      have a := at_lastN l m
      have zl : (natL (l ++ [m])).length < sizeLine := by rw [natL_len, List.length_append, List.length_singleton, line_is]; omega
      have e : natL (l ++ [m]) ++ [.int ((m : Int) + (r : Int))] = natL (l ++ [m] ++ [m + r]) := by simp [natL]
      refine ⟨?_, by show (l ++ [m]).length + _ ≤ _; rw [List.length_append, List.length_singleton]; omega⟩
      simp only
      rw [← e]
      generalize natL (l ++ [m]) = Z at *
      generalize rowD rs = R at *
      simp [qb15_1, runE_mt, mtD, a, zl])
  simp only [fold_csum, List.nil_append, csum_ini] at L1
  have L1 : forD _ (natL rs) [some (.v (rowD rs)), some (.o [.int 0]), some (.o []), none, none, none, none] = _ := L1
  have L2 := forD_fold (body := fun d en => (en.put 4 (.v d)).bind fun en1 => (runB (runP cons FU defs (n + 2)) cons FU qb15_0 en1).bind fun f => some (wipF [3, 4, 5, 6] f))
    (fun B : List Nat => [some (.v (rowD rs)), some (.o (natL (iniL rs ++ [rs.sum]))), some (.o (natL B)), none, none, none, none]) (fun r : Nat => PyData.int (r : Int)) (fun B c => B ++ [rs.sum - c]) (fun B xs => (∀ x ∈ xs, x ≤ rs.sum) ∧ B.length + xs.length ≤ 200) (iniL rs) []
    ⟨fun x hx => by
      obtain ⟨i, _, rfl⟩ := List.mem_map.mp hx
      exact sum_take_le rs i, by show 0 + (iniL rs).length ≤ 200; unfold iniL; rw [List.length_map, List.length_range]; omega⟩ (by
      rintro B c xs ⟨h1, h⟩
      have hc := h1 c (by simp)
      simp only [List.length_cons] at h
      have a := at_lastN (iniL rs) rs.sum
      have zl : (natL B).length < sizeLine := by rw [natL_len, line_is]; omega
      have es : ((rs.sum : Nat) : Int) - (c : Int) = ((rs.sum - c : Nat) : Int) := by omega
      have e : natL B ++ [.int ((rs.sum - c : Nat) : Int)] = natL (B ++ [rs.sum - c]) := by simp [natL]
      refine ⟨?_, fun x hx => h1 x (List.mem_cons_of_mem _ hx), by rw [List.length_append, List.length_singleton]; omega⟩
      rw [← e]
      generalize ((rs.sum - c : Nat) : Int) = T at *
      generalize natL (iniL rs ++ [rs.sum]) = Z at *
      generalize natL B = W at *
      generalize rowD rs = R at *
      simp [qb15_0, runE_mt, mtD, a, es, zl])
  rw [foldl_snoc, List.nil_append] at L2
  have eb : (iniL rs).map (fun c => rs.sum - c) = backL rs := by
    unfold iniL backL
    rw [List.map_map]
    rfl
  rw [eb] at L2
  have L2 : forD _ (natL (iniL rs)) [some (.v (rowD rs)), some (.o (natL (iniL rs ++ [rs.sum]))), some (.o []), none, none, none, none] = _ := L2
  have ci := cut_init (iniL rs) rs.sum
  have la := at_lastN (iniL rs) rs.sum
  have so := sort_back rs
  have cm := compD_mapF (turn := lcTurn (runP cons FU defs (n + 2)) cons [("_law_k", 6)] (.n 6) .yes (.ix (.x 0) (.bin .Sub (.bin .Sub (.fn .len (.cons (.x 0) .nil)) (.k (.int 1))) (.x 6)))) (fun k : Nat => PyData.int (0 + (k : Int))) (fun k => PyData.int ((rs.getD (rs.length - 1 - k) 0 : Nat) : Int))
    [some (.v (rowD rs)), some (.o (natL (iniL rs ++ [rs.sum]))), some (.o (natL (backL rs))), none, none, none, none] (List.range rs.length) (fun k hk => by
      have hk := List.mem_range.mp hk
      have a : ixD (rowD rs) (.int (((natL rs).length : Int) - 1 - (0 + (k : Int)))) = some (.int ((rs.getD (rs.length - 1 - k) 0 : Nat) : Int)) := by
        refine at_natL rs (rs.length - 1 - k) _ ?_ _ (by rw [natL_len]; omega)
        rw [List.getD_eq_getElem?_getD, List.getElem?_eq_getElem (by omega)]
        rfl
      have ln : fnD .len [rowD rs] = some (.v (.int ((natL rs).length : Int))) := rfl
      generalize natL (iniL rs ++ [rs.sum]) = Z at *
      generalize natL (backL rs) = W at *
      generalize rowD rs = R at *
      generalize ((natL rs).length : Int) = N at *
      simp only [Int.zero_add] at *
      simp [lcTurn, wipeE, ln, a])
  rw [← rngD_map, turned_is] at cm
  have ln : fnD .len [rowD rs] = some (.v (.int (rs.length : Int))) := by
    show some (Sl.v (.int ((natL rs).length : Int))) = _
    rw [natL_len]
  have rg := rngO_n (i := 0) (j := (rs.length : Int)) (n := rs.length) (by decide) (by decide) (by omega) (by omega) (by omega)
  have zc : (natL rs.reverse).length ≤ sizeLine := by rw [natL_len, List.length_reverse, line_is]; omega
  have big : ∀ x ∈ iniL rs ++ [rs.sum], x ≤ 10000 := fun x hx => by
    rcases List.mem_append.mp hx with hx | hx
    · obtain ⟨i, _, rfl⟩ := List.mem_map.mp hx
      have := sum_take_le rs i
      omega
    · rw [List.mem_singleton.mp hx]
      omega
  have il : (iniL rs ++ [rs.sum]).length ≤ 101 := by
    unfold iniL
    rw [List.length_append, List.length_map, List.length_range, List.length_singleton]
    omega
  have s1 := (sm_natB _ big).mono (Nat.le_refl 1) il
  have a1 := alike_at (n + 1) (Sm.alk (Sm.cl s1 (Sm.cl (Sm.int (i := ((rs.sum : Nat) : Int)) (by omega) 1 0) (Sm.nl 1))) (by decide) (by decide))
  have s2 := (sm_natB (backL rs).reverse (fun x hx => by
    obtain ⟨i, _, rfl⟩ := List.mem_map.mp (List.mem_reverse.mp hx)
    omega)).mono (Nat.le_refl 1) (show _ ≤ 101 by unfold backL; rw [List.length_reverse, List.length_map, List.length_range]; omega)
  have s3 := (sm_natB rs.reverse (fun x hx => by
    have := hr x (List.mem_reverse.mp hx)
    omega)).mono (Nat.le_refl 1) (show _ ≤ 101 by rw [List.length_reverse]; omega)
  have a2 := alike_at (n + 1) (Sm.alk (Sm.cl s2 (Sm.cl s3 (Sm.nl 1))) (by decide) (by decide))
  rw [csum_ini] at c1
  have er : ∀ l : List Nat, rowD l = .tuple (natL l) := fun _ => rfl
  rw [er] at c1 c2 c3 c4 L1 L2 cm ln ⊢
  rw [er] at c1 c4
  rw [at_def qd15 rfl rfl]
  generalize natL (iniL rs ++ [rs.sum]) = Z at *
  generalize natL (iniL rs) = Z1 at *
  generalize natL (backL rs).reverse = W2 at *
  generalize natL (backL rs) = W at *
  generalize natL rs.reverse = R2 at *
  generalize natL rs = R at *
  generalize ((rs.sum : Nat) : Int) = S at *
  generalize rngD 0 rs.length = RG at *
  simp [-fn_sorted, -fn_len_t, qd15, qb15, startE_eq, List.replicate_succ, runS_for, L1, ci, L2, c1, c2, c3, c4, la, so, ln, rg, runE_lc, noOwn, wipeE, backE, cm, zc, a1, a2]
--part
theorem nls_B (B : B5) : nls B.d = true := by
  unfold B5.d frD
  simp [nls, nlsA]
theorem wideY_at (n : Nat) (b : Bag) (k : Nat) (hb : b.Ok k) (hk : k ≤ 10 ^ 5) : ∃ (Y : PyData) (lo mo : Nat) (b' : Bag), runP cons FU defs (n + 5) 13 [.b b.d] = some (.v Y, b'.d) ∧ ixD Y (.int 3) = some (.int (lo : Int)) ∧ ixD Y (.int 4) = some (.int (mo : Int)) ∧ lo ≤ mo ∧ mo ≤ 16 ∧ b'.Ok (k + 20) := by
  obtain ⟨t, b1, q1, t0, t1, k1⟩ := take_at (n + 3) b 8 k hb (by omega) (by decide) (by decide)
  obtain ⟨B, b2, q2, hB, k2⟩ := bounds_at n b1 _ k1 (by omega)
  obtain ⟨j, b3, q3, hj, k3⟩ := some_int (n + 2) b2 [0, 1, 2, 8] _ k2 (by omega) (by simp) (by simp)
  have hj := (by decide : ∀ j ∈ [(0 : Int), 1, 2, 8], 0 ≤ j ∧ j ≤ 8) j hj
  obtain ⟨l, b4, q4, l0, l1, k4⟩ := take_at (n + 3) b3 8 _ k3 (by omega) (by decide) (by decide)
  obtain ⟨lo, hlo⟩ := Int.eq_ofNat_of_zero_le (show 0 ≤ 1 + t by omega)
  obtain ⟨mo, hmo⟩ : ∃ mo : Nat, (mo : Int) = if (lo : Int) + j < 16 then (lo : Int) + j else 16 := ⟨((if (lo : Int) + j < 16 then (lo : Int) + j else 16)).toNat, by split <;> omega⟩
  have mi := min_at 16 ((lo : Int) + j) mo hmo
  have hm : lo ≤ mo ∧ mo ≤ 16 := by
    split at hmo <;> omega
  have sl : slD B.d none (some 3) = some (.v (.tuple [.int B.c, frD (qF B.e B.a), frD (qF B.e2 B.a2)])) := rfl
  have ad : binD .Add (.tuple [.int B.c, frD (qF B.e B.a), frD (qF B.e2 B.a2)]) (.tuple [.int (lo : Int), .int (mo : Int), .int (1 + l)]) = some (.v (.tuple [.int B.c, frD (qF B.e B.a), frD (qF B.e2 B.a2), .int (lo : Int), .int (mo : Int), .int (1 + l)])) := add_tt (by simp [line_is])
  refine ⟨.tuple [.int B.c, frD (qF B.e B.a), frD (qF B.e2 B.a2), .int (lo : Int), .int (mo : Int), .int (1 + l)], lo, mo, b4, ?_, rfl, rfl, hm.1, hm.2, k4.mono (by omega)⟩
  simp only [List.map_cons, List.map_nil] at q3
  rw [at_def qd13 rfl rfl]
  generalize B.d = Y at *
  generalize frD (qF B.e B.a) = f1 at *
  generalize frD (qF B.e2 B.a2) = f2 at *
  simp [-fn_min, qd13, qb13, startE_eq, List.replicate_succ, q1, q2, q3, q4, hlo, mi, sl, ad]
def EB (b : Bag) : PF.En := [none, some (.o b.d), none, none, none, none, none, none, none]
theorem turn1 (b : Bag) (k : Nat) (hb : b.Ok k) (hk : k ≤ 10 ^ 4) (i : Nat) (hi : i < 12) : ∃ b' : Bag, (((EB b).put 2 (.v (.int (0 + (i : Int))))).bind fun en1 => (runB (runP cons FU defs 11) cons FU qb16_2 en1).bind fun f => some (wipF [0, 2, 3, 4, 5, 6, 7, 8] f)) = some (.nx (EB b')) ∧ b'.Ok (k + 200) := by
  obtain ⟨B, b1, q1, hB, k1⟩ := bounds_at 7 b k hb (by omega)
  obtain ⟨Y2, lo2, mo2, b2, q2, y3, y4, y5, y6, k2⟩ := wideY_at 6 b1 _ k1 (by omega)
  obtain ⟨Y, b3, q3, hY, k3⟩ := some_at 9 b2 [B.d, Y2] _ k2 (by omega) (by simp) (by simp)
  obtain ⟨lo, mo, x3, x4, x5, x6⟩ : ∃ lo mo : Nat, ixD Y (.int 3) = some (.int (lo : Int)) ∧ ixD Y (.int 4) = some (.int (mo : Int)) ∧ lo ≤ mo ∧ mo ≤ 16 := by
    simp only [List.mem_cons, List.not_mem_nil, or_false] at hY
    rcases hY with rfl | rfl
    · exact ⟨B.lo, B.most, rfl, rfl, hB.l1, by have := hB.l2; omega⟩
    · exact ⟨lo2, mo2, y3, y4, y5, y6⟩
  obtain ⟨m, b4, q4, hm, k4⟩ := some_int 9 b3 [0, 1, 3, 8, 40] _ k3 (by omega) (by simp) (by simp)
  have hm := (by decide : ∀ j ∈ [(0 : Int), 1, 3, 8, 40], 0 ≤ j ∧ j ≤ 40) m hm
  obtain ⟨m, rfl⟩ := Int.eq_ofNat_of_zero_le hm.1
  simp only [List.map_cons, List.map_nil] at q4
  obtain ⟨rs, b5, q5, lr, hr, k5⟩ := runsY_at 8 b4 _ k4 (by omega) Y lo mo x5 (by omega) x3 x4 m (by omega)
  obtain ⟨g, b6, q6, hg, k6⟩ := some_int 9 b5 [1, 2, 40] _ k5 (by omega) (by simp) (by simp)
  have hg := (by decide : ∀ j ∈ [(1 : Int), 2, 40], 0 ≤ j ∧ j ≤ 40) g hg
  obtain ⟨g, rfl⟩ := Int.eq_ofNat_of_zero_le hg.1
  simp only [List.map_cons, List.map_nil] at q6
  have r1 := rowright_at 8 rs (by omega) (fun r h => by have := (hr r h).2; omega)
  have r2 := rowright_at 8 (rs ++ [g]) (by rw [List.length_append, List.length_singleton]; omega) (fun r h => by
    rcases List.mem_append.mp h with h | h
    · have := (hr r h).2
      omega
    · rw [List.mem_singleton.mp h]
      omega)
  have er : PyData.tuple (rs.map fun r : Nat => .int (r : Int)) = rowD rs := rfl
  rw [er] at q5
  have ad : binD .Add (rowD rs) (.tuple [.int (g : Int)]) = some (.v (rowD (rs ++ [g]))) := by
    unfold rowD
    rw [List.map_append]
    exact add_tt (by rw [List.length_map, List.length_singleton, line_is]; omega)
  refine ⟨b6, ?_, k6.mono (by omega)⟩
  unfold EB
  generalize rowD (rs ++ [g]) = R2 at *
  generalize rowD rs = R at *
  generalize B.d = BD at *
  simp [qb16_2, q1, q2, q3, q4, q5, q6, r1, r2, ad]
theorem set_app {α : Type} (l : List α) (x y : α) : (l ++ [x]).set 0 y = (l ++ [x]).set 0 y := rfl
theorem turn2 (b : Bag) (k : Nat) (hb : b.Ok k) (hk : k ≤ 10 ^ 4) (i : Nat) (hi : i < 3) : ∃ b' : Bag, (((EB b).put 2 (.v (.int (0 + (i : Int))))).bind fun en1 => (runB (runP cons FU defs 11) cons FU qb16_1 en1).bind fun f => some (wipF [0, 2, 3, 4, 5, 6, 7, 8] f)) = some (.nx (EB b')) ∧ b'.Ok (k + 200) := by
  obtain ⟨B, b1, q1, hB, k1⟩ := bounds_at 7 b k hb (by omega)
  obtain ⟨c, b2, q2, hc, k2⟩ := some_int 9 b1 [0, 1, 2, 5, 9, 14] _ k1 (by omega) (by simp) (by simp)
  have hc := (by decide : ∀ j ∈ [(0 : Int), 1, 2, 5, 9, 14], 0 ≤ j ∧ j ≤ 14) c hc
  obtain ⟨data, rfl⟩ := Int.eq_ofNat_of_zero_le hc.1
  have hd : data ≤ 14 := by omega
  simp only [List.map_cons, List.map_nil] at q2
  have l0 := hB.l0
  have l1 := hB.l1
  have l2 := hB.l2
  have x3 : ixD B.d (.int 3) = some (.int (B.lo : Int)) := rfl
  have x4 : ixD B.d (.int 4) = some (.int (B.most : Int)) := rfl
  have q3 := allrows_at 10 B.d (lo := B.lo) (mo := B.most) (data := data) l0 (by omega) (by omega) hd x3 x4
  have q4 := rowsover_at 10 B.d (nls_B B) B.lo B.most data x3 x4 l0 (by omega) (by omega) (by omega) (fun i hi => Nat.le_trans (cN_le _ _ i) (Nat.le_trans (Nat.pow_le_pow_right (by decide) (by omega : i ≤ 14)) (by decide)))
  have al := alike_lt 10 (alk_rows (lo := B.lo) (mo := B.most) (data := data) l0 (by omega) hd)
  have ln : (rwD (rw1 B.lo B.most data)).length < 20000 := by
    rw [rwD_len, (rw1_ok l0 data).1]
    have := Nat.le_trans (cN_le B.lo B.most data) (Nat.pow_le_pow_right (by decide) hd)
    have e : (2 : Nat) ^ 14 = 16384 := by decide
    omega
  refine ⟨b2, ?_, k2.mono (by omega)⟩
  generalize rwD (rw1 B.lo B.most data) = R at *
  have zl : R.length < sizeLine := by rw [line_is]; omega
  have ix0 : ixN (R ++ [PyData.tuple []]).length 0 = some 0 := by
    unfold ixN
    rw [List.length_append, List.length_singleton]
    simp
  obtain ⟨e, f, rfl⟩ := forD_rng (body := fun d en => (en.put 7 (.v d)).bind fun en1 => (runB (runP cons FU defs 11) cons FU qb16_0 en1).bind fun f => some (wipF [0, 2, 4, 7, 8] f))
    (fun i e => e = [none, some (.o b2.d), none, some (.v B.d), none, some (.v (.int (data : Int))), some (if i = 0 then .o R else .v (.list R)), none, none]) 0 2
    [none, some (.o b2.d), none, some (.v B.d), none, some (.v (.int (data : Int))), some (.o R), none, none] rfl (by
      rintro j hj e rfl
      refine ⟨_, ?_, rfl⟩
      rw [if_neg (by omega : ¬ j + 1 = 0)]
      generalize B.d = BD at *
      by_cases z : j = 0
      · rw [if_pos z]
        simp [qb16_0, q4, al, runE_mt, mtD, zl, runS_six, ix0, -List.length_append]
      · rw [if_neg z]
        simp [qb16_0, q4, al, runE_mt, mtD, zl, runS_six, ix0, -List.length_append])
  have rg := rngO_n (i := 0) (j := 2) (n := 2) (by decide) (by decide) (by decide) (by decide) (by decide)
  unfold EB
  generalize B.d = BD at *
  simp [qb16_1, q1, q2, q3, runS_for, rg, f]
theorem law_run : ∀ ns : List Int, ns.length ≤ 63 → ∃ ds, runP cons FU defs 12 16 [.v (.list (ns.map .int))] = some (.v (.bool true), ds) := by
  intro ns hn
  have g1 := bag_at 10 ns hn
  obtain ⟨e1, f1, b, hb, rfl⟩ := forD_rng (body := fun d e => (e.put 2 (.v d)).bind fun en1 => (runB (runP cons FU defs 11) cons FU qb16_2 en1).bind fun f => some (wipF [0, 2, 3, 4, 5, 6, 7, 8] f))
    (fun k e => ∃ b : Bag, b.Ok (200 * k + 1) ∧ e = EB b) 0 12 (EB (bag0 ns)) ⟨bag0 ns, (bag0_ok ns hn).mono (by omega), rfl⟩ (by
      rintro i hi e ⟨b, hb, rfl⟩
      obtain ⟨b', q, hb'⟩ := turn1 b _ hb (by omega) i hi
      exact ⟨_, q, b', hb'.mono (by omega), rfl⟩)
  obtain ⟨e2, f2, b2, hb2, rfl⟩ := forD_rng (body := fun d e => (e.put 2 (.v d)).bind fun en1 => (runB (runP cons FU defs 11) cons FU qb16_1 en1).bind fun f => some (wipF [0, 2, 3, 4, 5, 6, 7, 8] f))
    (fun k e => ∃ b : Bag, b.Ok (2401 + 200 * k) ∧ e = EB b) 0 3 (EB b) ⟨b, hb.mono (by omega), rfl⟩ (by
      rintro i hi e ⟨b, hb, rfl⟩
      obtain ⟨b', q, hb'⟩ := turn2 b _ hb (by omega) i hi
      exact ⟨_, q, b', hb'.mono (by omega), rfl⟩)
  unfold EB at f1 f2
  refine ⟨[], ?_⟩
  rw [at_def qd16 rfl rfl]
  simp [qd16, qb16, startE_eq, List.replicate_succ, runS_for, rngO_n (i := 0) (j := 12) (n := 12) (by decide) (by decide) (by decide) (by decide) (by decide), rngO_n (i := 0) (j := 3) (n := 3) (by decide) (by decide) (by decide) (by decide) (by decide), g1, f1, f2]
section
theorem defAt {K : PySem.W.Frag} {mg : Str → Option Value} {f : Fn} {st : Stmt} {a : Addr} {oc : Value} {od an : Option Addr} {osl : Array (Option Value)} {kV doc pm cdv ct : Value} (hm : mg f.name = some (.ref a))
    (l : K.lookup a = some ⟨oc, od, .func (PySem.W.fnOf f.name f.name (defArgs st) (defBody st) (defScope st) .none kV doc pm an cdv ct), osl⟩) (c : PySem.W.codeIn K cdv f.name = true) (k : PySem.W.keepIn K (.ref a) = true)
    (hb : ∀ us : List Value, us.length = f.ps.length → bindArgs (PySem.W.fnOf f.name f.name (defArgs st) (defBody st) (defScope st) .none kV doc pm an cdv ct) ⟨us, []⟩ = pure (f.ps.zip us)) (hc : chkA fns cons f st = true) (hr : chkR fns cons f st = true) (hx : ∀ c ∈ clsOf f, ∃ C, XcOk K mg c C) (ht : ∀ x, f.ft = some x → ∃ c P, PySem.W.tabIn K f.name = some (c, P)) : DefAt K mg fns cons f :=
  ⟨⟨a, _, st, hm, fun_mk l c k, .all hb, hc, hr⟩, hx, ht⟩
theorem all_mk {l : PySem.W.OpenLaw} {w : World} {K : PySem.W.Frag} {h : Heap} {mg : Str → Option Value} {fa : Addr} {FU : Nat} (X : K.In h) (G : h.Ns mainGlobals mg) (hfa : mg "law" = some (.ref fa))
    {f0 : Addr} {od0 an0 : Option Addr} {sl0 : Array (Option Value)} {oc0 kV0 dc0 pm0 cd0 ct0 : Value} {f1 : Addr} {od1 an1 : Option Addr} {sl1 : Array (Option Value)} {oc1 kV1 dc1 pm1 cd1 ct1 : Value} {f2 : Addr} {od2 an2 : Option Addr} {sl2 : Array (Option Value)} {oc2 kV2 dc2 pm2 cd2 ct2 : Value} {f3 : Addr} {od3 an3 : Option Addr} {sl3 : Array (Option Value)} {oc3 kV3 dc3 pm3 cd3 ct3 : Value} {f4 : Addr} {od4 an4 : Option Addr} {sl4 : Array (Option Value)} {oc4 kV4 dc4 pm4 cd4 ct4 : Value} {f5 : Addr} {od5 an5 : Option Addr} {sl5 : Array (Option Value)} {oc5 kV5 dc5 pm5 cd5 ct5 : Value} {f6 : Addr} {od6 an6 : Option Addr} {sl6 : Array (Option Value)} {oc6 kV6 dc6 pm6 cd6 ct6 : Value} {f7 : Addr} {od7 an7 : Option Addr} {sl7 : Array (Option Value)} {oc7 kV7 dc7 pm7 cd7 ct7 : Value} {f8 : Addr} {od8 an8 : Option Addr} {sl8 : Array (Option Value)} {oc8 kV8 dc8 pm8 cd8 ct8 : Value} {f9 : Addr} {od9 an9 : Option Addr} {sl9 : Array (Option Value)} {oc9 kV9 dc9 pm9 cd9 ct9 : Value} {f10 : Addr} {od10 an10 : Option Addr} {sl10 : Array (Option Value)} {oc10 kV10 dc10 pm10 cd10 ct10 : Value} {f11 : Addr} {od11 an11 : Option Addr} {sl11 : Array (Option Value)} {oc11 kV11 dc11 pm11 cd11 ct11 : Value} {f12 : Addr} {od12 an12 : Option Addr} {sl12 : Array (Option Value)} {oc12 kV12 dc12 pm12 cd12 ct12 : Value} {f13 : Addr} {od13 an13 : Option Addr} {sl13 : Array (Option Value)} {oc13 kV13 dc13 pm13 cd13 ct13 : Value} {f14 : Addr} {od14 an14 : Option Addr} {sl14 : Array (Option Value)} {oc14 kV14 dc14 pm14 cd14 ct14 : Value} {f15 : Addr} {od15 an15 : Option Addr} {sl15 : Array (Option Value)} {oc15 kV15 dc15 pm15 cd15 ct15 : Value} {f16 : Addr} {od16 an16 : Option Addr} {sl16 : Array (Option Value)} {oc16 kV16 dc16 pm16 cd16 ct16 : Value}  
    (a0 : PySem.W.nsIn K mainGlobals "cells_of" = some (some (.ref f0)))
    (l0 : K.lookup f0 = some ⟨oc0, od0, .func (PySem.W.fnOf "cells_of" "cells_of" (defArgs (topS 1)) (defBody (topS 1)) (defScope (topS 1)) .none kV0 dc0 pm0 an0 cd0 ct0), sl0⟩)
    (c0 : PySem.W.codeIn K cd0 "cells_of" = true)
    (k0 : PySem.W.keepIn K (.ref f0) = true)
    (a1 : PySem.W.nsIn K mainGlobals "length_of" = some (some (.ref f1)))
    (l1 : K.lookup f1 = some ⟨oc1, od1, .func (PySem.W.fnOf "length_of" "length_of" (defArgs (topS 2)) (defBody (topS 2)) (defScope (topS 2)) .none kV1 dc1 pm1 an1 cd1 ct1), sl1⟩)
    (c1 : PySem.W.codeIn K cd1 "length_of" = true)
    (k1 : PySem.W.keepIn K (.ref f1) = true)
    (a2 : PySem.W.nsIn K mainGlobals "mirrored" = some (some (.ref f2)))
    (l2 : K.lookup f2 = some ⟨oc2, od2, .func (PySem.W.fnOf "mirrored" "mirrored" (defArgs (topS 3)) (defBody (topS 3)) (defScope (topS 3)) .none kV2 dc2 pm2 an2 cd2 ct2), sl2⟩)
    (c2 : PySem.W.codeIn K cd2 "mirrored" = true)
    (k2 : PySem.W.keepIn K (.ref f2) = true)
    (a3 : PySem.W.nsIn K mainGlobals "distances_of" = some (some (.ref f3)))
    (l3 : K.lookup f3 = some ⟨oc3, od3, .func (PySem.W.fnOf "distances_of" "distances_of" (defArgs (topS 4)) (defBody (topS 4)) (defScope (topS 4)) .none kV3 dc3 pm3 an3 cd3 ct3), sl3⟩)
    (c3 : PySem.W.codeIn K cd3 "distances_of" = true)
    (k3 : PySem.W.keepIn K (.ref f3) = true)
    (a4 : PySem.W.nsIn K mainGlobals "rows_over" = some (some (.ref f4)))
    (l4 : K.lookup f4 = some ⟨oc4, od4, .func (PySem.W.fnOf "rows_over" "rows_over" (defArgs (topS 5)) (defBody (topS 5)) (defScope (topS 5)) .none kV4 dc4 pm4 an4 cd4 ct4), sl4⟩)
    (c4 : PySem.W.codeIn K cd4 "rows_over" = true)
    (k4 : PySem.W.keepIn K (.ref f4) = true)
    (a5 : PySem.W.nsIn K mainGlobals "_law_bag" = some (some (.ref f5)))
    (l5 : K.lookup f5 = some ⟨oc5, od5, .func (PySem.W.fnOf "_law_bag" "_law_bag" (defArgs (topS 7)) (defBody (topS 7)) (defScope (topS 7)) .none kV5 dc5 pm5 an5 cd5 ct5), sl5⟩)
    (c5 : PySem.W.codeIn K cd5 "_law_bag" = true)
    (k5 : PySem.W.keepIn K (.ref f5) = true)
    (a6 : PySem.W.nsIn K mainGlobals "_law_take" = some (some (.ref f6)))
    (l6 : K.lookup f6 = some ⟨oc6, od6, .func (PySem.W.fnOf "_law_take" "_law_take" (defArgs (topS 8)) (defBody (topS 8)) (defScope (topS 8)) .none kV6 dc6 pm6 an6 cd6 ct6), sl6⟩)
    (c6 : PySem.W.codeIn K cd6 "_law_take" = true)
    (k6 : PySem.W.keepIn K (.ref f6) = true)
    (a7 : PySem.W.nsIn K mainGlobals "_law_some" = some (some (.ref f7)))
    (l7 : K.lookup f7 = some ⟨oc7, od7, .func (PySem.W.fnOf "_law_some" "_law_some" (defArgs (topS 9)) (defBody (topS 9)) (defScope (topS 9)) .none kV7 dc7 pm7 an7 cd7 ct7), sl7⟩)
    (c7 : PySem.W.codeIn K cd7 "_law_some" = true)
    (k7 : PySem.W.keepIn K (.ref f7) = true)
    (a8 : PySem.W.nsIn K mainGlobals "_law_alike" = some (some (.ref f8)))
    (l8 : K.lookup f8 = some ⟨oc8, od8, .func (PySem.W.fnOf "_law_alike" "_law_alike" (defArgs (topS 10)) (defBody (topS 10)) (defScope (topS 10)) .none kV8 dc8 pm8 an8 cd8 ct8), sl8⟩)
    (c8 : PySem.W.codeIn K cd8 "_law_alike" = true)
    (k8 : PySem.W.keepIn K (.ref f8) = true)
    (a9 : PySem.W.nsIn K mainGlobals "_law_ratio" = some (some (.ref f9)))
    (l9 : K.lookup f9 = some ⟨oc9, od9, .func (PySem.W.fnOf "_law_ratio" "_law_ratio" (defArgs (topS 11)) (defBody (topS 11)) (defScope (topS 11)) .none kV9 dc9 pm9 an9 cd9 ct9), sl9⟩)
    (c9 : PySem.W.codeIn K cd9 "_law_ratio" = true)
    (k9 : PySem.W.keepIn K (.ref f9) = true)
    (a10 : PySem.W.nsIn K mainGlobals "_law_amount" = some (some (.ref f10)))
    (l10 : K.lookup f10 = some ⟨oc10, od10, .func (PySem.W.fnOf "_law_amount" "_law_amount" (defArgs (topS 12)) (defBody (topS 12)) (defScope (topS 12)) .none kV10 dc10 pm10 an10 cd10 ct10), sl10⟩)
    (c10 : PySem.W.codeIn K cd10 "_law_amount" = true)
    (k10 : PySem.W.keepIn K (.ref f10) = true)
    (a11 : PySem.W.nsIn K mainGlobals "_law_bounds" = some (some (.ref f11)))
    (l11 : K.lookup f11 = some ⟨oc11, od11, .func (PySem.W.fnOf "_law_bounds" "_law_bounds" (defArgs (topS 13)) (defBody (topS 13)) (defScope (topS 13)) .none kV11 dc11 pm11 an11 cd11 ct11), sl11⟩)
    (c11 : PySem.W.codeIn K cd11 "_law_bounds" = true)
    (k11 : PySem.W.keepIn K (.ref f11) = true)
    (a12 : PySem.W.nsIn K mainGlobals "_law_runs" = some (some (.ref f12)))
    (l12 : K.lookup f12 = some ⟨oc12, od12, .func (PySem.W.fnOf "_law_runs" "_law_runs" (defArgs (topS 14)) (defBody (topS 14)) (defScope (topS 14)) .none kV12 dc12 pm12 an12 cd12 ct12), sl12⟩)
    (c12 : PySem.W.codeIn K cd12 "_law_runs" = true)
    (k12 : PySem.W.keepIn K (.ref f12) = true)
    (a13 : PySem.W.nsIn K mainGlobals "_law_wide" = some (some (.ref f13)))
    (l13 : K.lookup f13 = some ⟨oc13, od13, .func (PySem.W.fnOf "_law_wide" "_law_wide" (defArgs (topS 15)) (defBody (topS 15)) (defScope (topS 15)) .none kV13 dc13 pm13 an13 cd13 ct13), sl13⟩)
    (c13 : PySem.W.codeIn K cd13 "_law_wide" = true)
    (k13 : PySem.W.keepIn K (.ref f13) = true)
    (a14 : PySem.W.nsIn K mainGlobals "_law_all_rows" = some (some (.ref f14)))
    (l14 : K.lookup f14 = some ⟨oc14, od14, .func (PySem.W.fnOf "_law_all_rows" "_law_all_rows" (defArgs (topS 16)) (defBody (topS 16)) (defScope (topS 16)) .none kV14 dc14 pm14 an14 cd14 ct14), sl14⟩)
    (c14 : PySem.W.codeIn K cd14 "_law_all_rows" = true)
    (k14 : PySem.W.keepIn K (.ref f14) = true)
    (a15 : PySem.W.nsIn K mainGlobals "_law_is_row_right" = some (some (.ref f15)))
    (l15 : K.lookup f15 = some ⟨oc15, od15, .func (PySem.W.fnOf "_law_is_row_right" "_law_is_row_right" (defArgs (topS 17)) (defBody (topS 17)) (defScope (topS 17)) .none kV15 dc15 pm15 an15 cd15 ct15), sl15⟩)
    (c15 : PySem.W.codeIn K cd15 "_law_is_row_right" = true)
    (k15 : PySem.W.keepIn K (.ref f15) = true)
    (a16 : PySem.W.nsIn K mainGlobals "law" = some (some (.ref f16)))
    (l16 : K.lookup f16 = some ⟨oc16, od16, .func (PySem.W.fnOf "law" "law" (defArgs (topS 18)) (defBody (topS 18)) (defScope (topS 18)) .none kV16 dc16 pm16 an16 cd16 ct16), sl16⟩)
    (c16 : PySem.W.codeIn K cd16 "law" = true)
    (k16 : PySem.W.keepIn K (.ref f16) = true)
    (z0 : PySem.W.nsIn K mainGlobals "len" = some none)
    (z1 : PySem.W.nsIn K mainGlobals "abs" = some none)
    (z2 : PySem.W.nsIn K mainGlobals "int" = some none)
    (z3 : PySem.W.nsIn K mainGlobals "max" = some none)
    (z4 : PySem.W.nsIn K mainGlobals "min" = some none)
    (z5 : PySem.W.nsIn K mainGlobals "sum" = some none)
    (z6 : PySem.W.nsIn K mainGlobals "all" = some none)
    (z7 : PySem.W.nsIn K mainGlobals "any" = some none)
    (z8 : PySem.W.nsIn K mainGlobals "repr" = some none)
    (z9 : PySem.W.nsIn K mainGlobals "tuple" = some none)
    (z10 : PySem.W.nsIn K mainGlobals "list" = some none)
    (z11 : PySem.W.nsIn K mainGlobals "sorted" = some none)
    (z12 : PySem.W.nsIn K mainGlobals "str" = some none)
    (z13 : PySem.W.nsIn K mainGlobals "range" = some none)
    (z14 : PySem.W.nsIn K mainGlobals "zip" = some none)
    (z15 : PySem.W.nsIn K mainGlobals "enumerate" = some none)
    (z16 : PySem.W.nsIn K mainGlobals "isinstance" = some none)
    (z17 : PySem.W.nsIn K mainGlobals "bool" = some none)
    (z18 : PySem.W.nsIn K mainGlobals "dict" = some none)
    (z19 : PySem.W.nsIn K mainGlobals "divmod" = some none)
    (v0 : PySem.W.nsIn K mainGlobals "turn" = some none)
    (v1 : PySem.W.nsIn K mainGlobals "least_lead_that" = some none)
    (kl : noLB K = true)
    : ∃ fd : FuncData, (∀ (s : Shared) (v : Value), BindsTo s fd ⟨[v], []⟩ [("_law_script", v)]) ∧ TabW K ∧ (∀ y ∈ lamNames, y ∉ ([] : List Str) → PySem.W.tabIn K y = none) ∧ ∀ base : Heap, TabK K mg base → FnG l.prog w K mg base 34 fa fd ["_law_script"] (runP cons FU defs 12 16) := by
  have e := hfa.symm.trans (PySem.W.mg_of X G a16)
  cases e
  have hb : ∀ x ∈ blts, mg x = none := by
    intro x hx
    simp only [blts, List.mem_cons, List.not_mem_nil, or_false] at hx
    rcases hx with rfl | rfl | rfl | rfl | rfl | rfl | rfl | rfl | rfl | rfl | rfl | rfl | rfl | rfl | rfl | rfl | rfl | rfl | rfl | rfl
    · exact PySem.W.mg_none_of X G z0
    · exact PySem.W.mg_none_of X G z1
    · exact PySem.W.mg_none_of X G z2
    · exact PySem.W.mg_none_of X G z3
    · exact PySem.W.mg_none_of X G z4
    · exact PySem.W.mg_none_of X G z5
    · exact PySem.W.mg_none_of X G z6
    · exact PySem.W.mg_none_of X G z7
    · exact PySem.W.mg_none_of X G z8
    · exact PySem.W.mg_none_of X G z9
    · exact PySem.W.mg_none_of X G z10
    · exact PySem.W.mg_none_of X G z11
    · exact PySem.W.mg_none_of X G z12
    · exact PySem.W.mg_none_of X G z13
    · exact PySem.W.mg_none_of X G z14
    · exact PySem.W.mg_none_of X G z15
    · exact PySem.W.mg_none_of X G z16
    · exact PySem.W.mg_none_of X G z17
    · exact PySem.W.mg_none_of X G z18
    · exact PySem.W.mg_none_of X G z19
  have hd : ∀ f ∈ defs, DefAt K mg fns cons f := by
    intro f hf
    simp only [defs, List.mem_cons, List.not_mem_nil, or_false] at hf
    rcases hf with rfl | rfl | rfl | rfl | rfl | rfl | rfl | rfl | rfl | rfl | rfl | rfl | rfl | rfl | rfl | rfl | rfl
    · exact defAt (f := qd0) (PySem.W.mg_of X G a0) l0 c0 k0 (fun us hl => match us, hl with | [_], _ => rfl) chk0 rfl (clsOf_none rfl) (fun _ z => by cases z)
    · exact defAt (f := qd1) (PySem.W.mg_of X G a1) l1 c1 k1 (fun us hl => match us, hl with | [_], _ => rfl) chk1 rfl (clsOf_none rfl) (fun _ z => by cases z)
    · exact defAt (f := qd2) (PySem.W.mg_of X G a2) l2 c2 k2 (fun us hl => match us, hl with | [_], _ => rfl) chk2 rfl (clsOf_none rfl) (fun _ z => by cases z)
    · exact defAt (f := qd3) (PySem.W.mg_of X G a3) l3 c3 k3 (fun us hl => match us, hl with | [_], _ => rfl) chk3 rfl (clsOf_none rfl) (fun _ z => by cases z)
    · exact defAt (f := qd4) (PySem.W.mg_of X G a4) l4 c4 k4 (fun us hl => match us, hl with | [_, _], _ => rfl) chk4 rfl (clsOf_none rfl) (fun _ z => by cases z)
    · exact defAt (f := qd5) (PySem.W.mg_of X G a5) l5 c5 k5 (fun us hl => match us, hl with | [_], _ => rfl) chk5 rfl (clsOf_none rfl) (fun _ z => by cases z)
    · exact defAt (f := qd6) (PySem.W.mg_of X G a6) l6 c6 k6 (fun us hl => match us, hl with | [_, _], _ => rfl) chk6 rfl (clsOf_none rfl) (fun _ z => by cases z)
    · exact defAt (f := qd7) (PySem.W.mg_of X G a7) l7 c7 k7 (fun us hl => match us, hl with | [_, _], _ => rfl) chk7 rfl (clsOf_none rfl) (fun _ z => by cases z)
    · exact defAt (f := qd8) (PySem.W.mg_of X G a8) l8 c8 k8 (fun us hl => match us, hl with | [_, _], _ => rfl) chk8 rfl (clsOf_none rfl) (fun _ z => by cases z)
    · exact defAt (f := qd9) (PySem.W.mg_of X G a9) l9 c9 k9 (fun us hl => match us, hl with | [_, _], _ => rfl) chk9 rfl (clsOf_none rfl) (fun _ z => by cases z)
    · exact defAt (f := qd10) (PySem.W.mg_of X G a10) l10 c10 k10 (fun us hl => match us, hl with | [_], _ => rfl) chk10 rfl (clsOf_none rfl) (fun _ z => by cases z)
    · exact defAt (f := qd11) (PySem.W.mg_of X G a11) l11 c11 k11 (fun us hl => match us, hl with | [_], _ => rfl) chk11 rfl (clsOf_none rfl) (fun _ z => by cases z)
    · exact defAt (f := qd12) (PySem.W.mg_of X G a12) l12 c12 k12 (fun us hl => match us, hl with | [_, _, _], _ => rfl) chk12 rfl (clsOf_none rfl) (fun _ z => by cases z)
    · exact defAt (f := qd13) (PySem.W.mg_of X G a13) l13 c13 k13 (fun us hl => match us, hl with | [_], _ => rfl) chk13 rfl (clsOf_none rfl) (fun _ z => by cases z)
    · exact defAt (f := qd14) (PySem.W.mg_of X G a14) l14 c14 k14 (fun us hl => match us, hl with | [_, _], _ => rfl) chk14 rfl (clsOf_none rfl) (fun _ z => by cases z)
    · exact defAt (f := qd15) (PySem.W.mg_of X G a15) l15 c15 k15 (fun us hl => match us, hl with | [_], _ => rfl) chk15 rfl (clsOf_none rfl) (fun _ z => by cases z)
    · exact defAt (f := qd16) (PySem.W.mg_of X G a16) l16 c16 k16 (fun us hl => match us, hl with | [_], _ => rfl) chk16 rfl (clsOf_none rfl) (fun _ z => by cases z)
  have hc : ∀ x d, cons.lookup x = some d → ∃ u v, mg x = some u ∧ RelV v u ∧ ∀ F, Dq K F v d := by
    intro x d hx
    simp only [cons, List.lookup_cons, List.lookup_nil] at hx
    cases hx
  have FF := fun_mk (st := topS 18) l16 c16 k16
  have hno : ∀ y ∈ lamNames, y ∉ ([] : List Str) → PySem.W.tabIn K y = none := fun y hy hm => by
    have hy : y = ("turn" : Str) ∨ y = ("least_lead_that" : Str) := by simpa [lamNames] using hy
    rcases hy with rfl | rfl
    · exact tabIn_no v0
    · exact tabIn_no v1

  exact ⟨_, fun s v => .of_eq rfl, tabW_of rfl (tabIn_no v0) (tabIn_no v1) (fun p z => by cases z) (fun p z => by cases z) (fun p q z w => by first | cases z; done | cases w; done) kl, hno, fun base TK => fn_G (f := qd16) FF chk16 hb hc (prog_ok rfl hd hb hc TK 11)⟩
end
end Lk04
open PySem PySem.W PyProof.Rows
set_option maxRecDepth 100000 in
set_option maxHeartbeats 0 in
theorem PySem.Challenge.cw_flutterheld_k04_rows_cell_by_cell_holds : PySem.Challenge.rw_flutterheld_k04_rows_cell_by_cell.Holds := by
  w_on; o_law; k_head; (case hw => w_witness2)
  k_fill
  refine PF.walk_P (l := PySem.Challenge.rw_flutterheld_k04_rows_cell_by_cell) (m := 63) (n := 34) (x := "_law_script") (g := PF.runP Lk04.cons Lk04.FU Lk04.defs 12 16) [] (fun y hy => nomatch hy) rfl (by decide) rfl ⟨rfl, by decide, by decide⟩ (fun w h Y => PySem.W.kIn_of Y) ?F Lk04.law_run
  case F =>
    intro w mg fa h KX G hmg
    refine' Lk04.all_mk KX G hmg ?a0 ?l0 ?c0 ?k0 ?a1 ?l1 ?c1 ?k1 ?a2 ?l2 ?c2 ?k2 ?a3 ?l3 ?c3 ?k3 ?a4 ?l4 ?c4 ?k4 ?a5 ?l5 ?c5 ?k5 ?a6 ?l6 ?c6 ?k6 ?a7 ?l7 ?c7 ?k7 ?a8 ?l8 ?c8 ?k8 ?a9 ?l9 ?c9 ?k9 ?a10 ?l10 ?c10 ?k10 ?a11 ?l11 ?c11 ?k11 ?a12 ?l12 ?c12 ?k12 ?a13 ?l13 ?c13 ?k13 ?a14 ?l14 ?c14 ?k14 ?a15 ?l15 ?c15 ?k15 ?a16 ?l16 ?c16 ?k16 ?z0 ?z1 ?z2 ?z3 ?z4 ?z5 ?z6 ?z7 ?z8 ?z9 ?z10 ?z11 ?z12 ?z13 ?z14 ?z15 ?z16 ?z17 ?z18 ?z19 ?v0 ?v1 ?kl
    (case a0 => k_is); (case l0 => k_is); (case c0 => k_is); (case k0 => k_is); (case a1 => k_is); (case l1 => k_is)
    (case c1 => k_is); (case k1 => k_is); (case a2 => k_is); (case l2 => k_is); (case c2 => k_is); (case k2 => k_is)
    (case a3 => k_is); (case l3 => k_is); (case c3 => k_is); (case k3 => k_is); (case a4 => k_is); (case l4 => k_is)
    (case c4 => k_is); (case k4 => k_is); (case a5 => k_is); (case l5 => k_is); (case c5 => k_is); (case k5 => k_is)
    (case a6 => k_is); (case l6 => k_is); (case c6 => k_is); (case k6 => k_is); (case a7 => k_is); (case l7 => k_is)
    (case c7 => k_is); (case k7 => k_is); (case a8 => k_is); (case l8 => k_is); (case c8 => k_is); (case k8 => k_is)
    (case a9 => k_is); (case l9 => k_is); (case c9 => k_is); (case k9 => k_is); (case a10 => k_is); (case l10 => k_is)
    (case c10 => k_is); (case k10 => k_is); (case a11 => k_is); (case l11 => k_is); (case c11 => k_is); (case k11 => k_is)
    (case a12 => k_is); (case l12 => k_is); (case c12 => k_is); (case k12 => k_is); (case a13 => k_is); (case l13 => k_is)
    (case c13 => k_is); (case k13 => k_is); (case a14 => k_is); (case l14 => k_is); (case c14 => k_is); (case k14 => k_is)
    (case a15 => k_is); (case l15 => k_is); (case c15 => k_is); (case k15 => k_is); (case a16 => k_is); (case l16 => k_is)
    (case c16 => k_is); (case k16 => k_is); (case z0 => k_is); (case z1 => k_is); (case z2 => k_is); (case z3 => k_is)
    (case z4 => k_is); (case z5 => k_is); (case z6 => k_is); (case z7 => k_is); (case z8 => k_is); (case z9 => k_is)
    (case z10 => k_is); (case z11 => k_is); (case z12 => k_is); (case z13 => k_is); (case z14 => k_is); (case z15 => k_is)
    (case z16 => k_is); (case z17 => k_is); (case z18 => k_is); (case z19 => k_is); (case v0 => k_is); (case v1 => k_is)
    (case kl => rfl)
