import PyProof.Rows.All
import Wide.All
import OpenK.AllK
import Wide.FinOn
import HandS.ForMost
import HandS.Wide
import HandS.Style
import HandS.Flow
import HandS.Conv
import HandS.Star
import HandS.TupAny
import HandS.TupMul
import HandS.IsInst
import HandS.Deep
import HandS.Walk
import HandS.Zip
import HandS.Dict
import HandS.WideBits
import HandS.Lambda
import HandS.TupSets
import HandS.SortRule
import HandS.SortInts
import KE.GoesMore
import KE.GoesEnum
import PyProof.Draws
import HandS.List
import KE.DataMinMax
import HandS.Call
import HandS.TupLe
import PyProof.RowDictHeap
import HandS.More
import HandS.SetFor
import HandS.DictComp
import HandS.WideMore
import PySem.Challenge.RW_flutterheld_k08_polygons_of_corners
set_option Elab.async false
set_option linter.all false
set_option maxRecDepth 100000
set_option maxHeartbeats 4000000
/-! PF1: a small language of the defs' bodies (IE, IS), its meaning on plain data (runE, runS), and the check that a body of the text is one of it (chkE, chkS). -/
namespace PF
open PySem PySem.Spec PyProof.Rows L2

/-- what a name holds: data that nobody changes; a list of its own; a list lent by the caller, to be changed -/
inductive Sl where
  | v (d : PyData)
  | o (ds : List PyData)
  | b (ds : List PyData)
  | w (kvs : List (PyData × PyData))
def Sl.d : Sl → PyData
  | .v d => d
  | .o ds => .list ds
  | .b ds => .list ds
  | .w kvs => .dict kvs
/-- what an operation may look at -/
def Sl.lk : Sl → Option PyData
  | .v d => some d
  | .o ds => some (.list ds)
  | .b ds => some (.list ds)
  | .w kvs => some (.dict kvs)
abbrev En := List (Option Sl)
/-- the value in hand, or the name that holds it -/
inductive Hd where
  | d (d : PyData)
  | s (i : Nat)
def En.at (env : En) (i : Nat) : Option Sl := (env[i]?).join
def Hd.get (env : En) : Hd → Option PyData
  | .d z => some z
  | .s j => (env.at j).bind Sl.lk
def getL (env : En) : List Hd → Option (List PyData)
  | [] => some []
  | h :: r => (h.get env).bind fun d => (getL env r).bind fun ds => some (d :: ds)
def getD : List Hd → Option (List PyData)
  | [] => some []
  | .d z :: r => (getD r).bind fun ds => some (z :: ds)
  | .s _ :: _ => none
/-- the arguments of a def; one list at most is lent -/
def getA (env : En) : Bool → List Hd → Option (List Sl)
  | _, [] => some []
  | k, .d z :: r => (getA env k r).bind fun ds => some (.v z :: ds)
  | false, .s i :: r => match env.at i with
    | some (.o ds) => (getA env true r).bind fun l => some (.b ds :: l)
    | some (.b ds) => (getA env true r).bind fun l => some (.b ds :: l)
    | _ => none
  | true, .s _ :: _ => none
/-- the name whose list is lent -/
def lentS : List Hd → Option Nat
  | [] => none
  | .d _ :: r => lentS r
  | .s i :: _ => some i
/-- what the def leaves in the lent list -/
def putA (env : En) (hs : List Hd) (l : List PyData) : En :=
  match lentS hs with
  | none => env
  | some i => match env.at i with
    | some (.o _) => env.set i (some (.o l))
    | some (.b _) => env.set i (some (.b l))
    | _ => env

inductive BF where
  | len | abs | int | max2 | min2 | max1 | min1 | sum | all | any | repr | tuple | list | sorted | str | divmod | dict
  deriving DecidableEq
inductive MT where
  | append | pop | insert | extend
  deriving DecidableEq

mutual
inductive IE where
  | k (d : PyData)
  | g (x : Str)
  | x (i : Nat)
  | bin (op : Operator) (a b : IE)
  | neg (a : IE)
  | not (a : IE)
  | and (a b : IE)
  | or (a b : IE)
  | cmp (op : CmpOp) (a b : IE)
  | ch (op op' : CmpOp) (a b c : IE)
  | ch3 (op op' op'' : CmpOp) (a b c d : IE)
  | ife (t : IT) (a b : IE)
  | ix (a b : IE)
  | sl (a : IE) (lo hi : IO)
  | rv (a : IE)
  | tup (es : IL)
  | lst (es : IL)
  | fn (f : BF) (es : IL)
  | isi (a : IE) (t : String)
  | call (f : Nat) (es : IL)
  | lc (own : List (Str × Nat)) (g : IG) (it : II) (c : IT) (e : IE)
  | lcl (own : List (Str × Nat)) (i : Nat) (g : IG) (c : IT) (e : IE)
  | lrg (a : IE)
  | lrg2 (a b : IE)
  | mt (m : MT) (i : Nat) (es : IL)
  | dic (es : IL)
  | dget (i : Nat) (k e : IE)
  | dix (i : Nat) (k : IE)
  | din (n : Bool) (i : Nat) (k : IE)
  | bits (a : IE)
  | lcd (own : List (Str × Nat)) (i : Nat) (g : IG) (c : IT) (e : IE)
  | dcm (own : List (Str × Nat)) (g : IG) (it : II) (c : IT) (k e : IE)
  | act (i f : Nat) (x : Str) (es : IL)
  | srs (a : IE)
inductive IT where
  | yes
  | e (a : IE)
  | not (a : IT)
  | and (a b : IT)
  | or (a b : IT)
  | ife (t a b : IT)
inductive IL where
  | nil
  | cons (a : IE) (r : IL)
  | star (a : IE) (r : IL)
  | io (i : Nat) (r : IL)
inductive IO where
  | no
  | so (a : IE)
inductive II where
  | e (a : IE)
  | r1 (a : IE)
  | r2 (a b : IE)
  | rd (a b : IE)
  | zip (a b : IE)
  | zip3 (a b c : IE)
  | enum (a : IE)
inductive IG where
  | n (i : Nat)
  | t (gs : IGs)
inductive IGs where
  | nil
  | cons (g : IG) (r : IGs)
end
mutual
inductive IS where
  | set (i : Nat) (e : IE)
  | tgt (gs : IGs) (e : IE)
  | par2 (i j : Nat) (a b : IE)
  | par3 (i j l : Nat) (a b c : IE)
  | parn (is : List Nat) (es : IL)
  | six (i : Nat) (k e : IE)
  | aug (i : Nat) (op : Operator) (e : IE)
  | aix (i : Nat) (k : IE) (op : Operator) (e : IE)
  | ret (e : IE)
  | retx (i : Nat)
  | retn
  | ex (e : IE)
  | cond (t : IT) (a b : IB)
  | «for» (g : IG) (it : II) (b : IB) (ws : List Nat)
  | wh (t : IT) (b : IB) (ws : List Nat)
  | brk
  | cnt
  | pass
  | dput (i : Nat) (k e : IE)
  | nev
inductive IB where
  | nil
  | cons (s : IS) (r : IB)
end

/-! ### operations on data -/
def cutL {α : Type} (xs : List α) (lo hi : Option Int) : List α := (xs.drop (HT.sIx xs.length 0 lo)).take (HT.sIx xs.length xs.length hi - HT.sIx xs.length 0 lo)
def binD (op : Operator) (a b : PyData) : Option Sl :=
  match op, a, b with
  | .Add, .int i, .int j => some (.v (.int (i + j)))
  | .Sub, .int i, .int j => some (.v (.int (i - j)))
  | .Mult, .int i, .int j => if i.natAbs.log2 + j.natAbs.log2 < 1000000 then some (.v (.int (i * j))) else none
  | .FloorDiv, .int i, .int j => if 0 < j ∧ j.natAbs.log2 < 9000 then some (.v (.int (i / j))) else if j ≠ 0 ∧ j.natAbs.log2 < 9000 then some (.v (.int (i.fdiv j))) else none
  | .Mod, .int i, .int j => if 0 < j then some (.v (.int (i % j))) else if j ≠ 0 then some (.v (.int (i.fmod j))) else none
  | .LShift, .int i, .int j => if i = 1 ∧ 0 ≤ j ∧ j.natAbs.log2 < 26 then some (.v (.int (2 ^ j.toNat))) else none
  | .Pow, .int i, .int j => if 0 ≤ j ∧ j ≤ 1000000 ∧ i.natAbs < 2 ^ 64 then some (.v (.int (i ^ j.toNat))) else none
  | .Add, .str x, .str y => if x.length + y.length ≤ sizeLine then some (.v (.str (x ++ y))) else none
  | .Add, .list xs, .list ys => if xs.length + ys.length ≤ sizeLine then some (.o (xs ++ ys)) else none
  | .Add, .tuple xs, .tuple ys => if xs.length + ys.length ≤ sizeLine then some (.v (.tuple (xs ++ ys))) else none
  | .Mult, .list xs, .int k => if k.natAbs.log2 < 62 ∧ xs.length * k.toNat ≤ sizeLine then some (.o (List.replicate k.toNat xs).flatten) else none
  | .Mult, .tuple xs, .int k => if k.natAbs.log2 < 60 ∧ xs.length * k.toNat ≤ 1000000 then some (.v (.tuple (List.replicate k.toNat xs).flatten)) else none
  | _, _, _ => none
def augD (op : Operator) (a b : PyData) : Option PyData :=
  match op, a, b with
  | .Add, .int i, .int j => some (.int (i + j))
  | .Sub, .int i, .int j => some (.int (i - j))
  | .FloorDiv, .int i, .int j => if 0 < j ∧ j.natAbs.log2 < 9000 then some (.int (i / j)) else none
  | .Add, .str x, .str y => if x.length + y.length ≤ sizeLine then some (.str (x ++ y)) else none
  | _, _, _ => none
def truD : PyData → Option Bool
  | .none => some false
  | .bool b => some b
  | .int i => some (i != 0)
  | .str x => if x.length ≤ sizeLine then some (x.length != 0) else none
  | .list xs => some (!xs.isEmpty)
  | .tuple xs => some (!xs.isEmpty)
  | .dict _ => none
def flatD : PyData → Bool
  | .none | .bool _ | .int _ | .str _ => true
  | _ => false
def intsD : List PyData → Option (List Int)
  | [] => some []
  | .int i :: r => (intsD r).bind fun l => some (i :: l)
  | _ :: _ => none
/-- the order of tuples of ints -/
def lexI : List Int → List Int → Bool
  | [], [] => false
  | [], _ :: _ => true
  | _ :: _, [] => false
  | a :: r, b :: s => if a = b then lexI r s else decide (a < b)
/-- a def as data: its name stands where no dict's key is -/
def fnDt (x : Str) : PyData := .dict [(.none, .str x)]
def fnQ : List (PyData × PyData) → Bool
  | [(.none, .str _)] => true
  | _ => false
def isF : PyData → Bool
  | .dict kvs => fnQ kvs
  | _ => false
def cmpD (op : CmpOp) (a b : PyData) : Option Bool :=
  match op with
  | .Eq => if SeqAt.shaped a = true ∧ SeqAt.shaped b = true then some (PyData.eqv a b) else match a, b with
    | .dict ks, .dict [] => if fnQ ks = true then none else some ks.isEmpty
    | .list xs, .list [] => some xs.isEmpty
    | .tuple xs, .tuple [] => some xs.isEmpty
    | .str x, .str y => some (decide (x = y))
    | .dict ks, .str _ => if fnQ ks = true then none else some false
    | .list _, .str _ => some false
    | .tuple _, .str _ => some false
    | _, _ => none
  | .NotEq => if SeqAt.shaped a = true ∧ SeqAt.shaped b = true then some (!PyData.eqv a b) else match a, b with
    | .dict ks, .dict [] => if fnQ ks = true then none else some (!ks.isEmpty)
    | .list xs, .list [] => some (!xs.isEmpty)
    | .tuple xs, .tuple [] => some (!xs.isEmpty)
    | .str x, .str y => some (!decide (x = y))
    | .dict ks, .str _ => if fnQ ks = true then none else some true
    | .list _, .str _ => some true
    | .tuple _, .str _ => some true
    | _, _ => none
  | .Lt => match a, b with
    | .int i, .int j => some (decide (i < j))
    | .tuple xs, .tuple ys => (intsD xs).bind fun is => (intsD ys).bind fun js => some (lexI is js)
    | _, _ => none
  | .LtE => match a, b with
    | .int i, .int j => some (decide (i ≤ j))
    | _, _ => none
  | .Gt => match a, b with
    | .int i, .int j => some (decide (j < i))
    | _, _ => none
  | .GtE => match a, b with
    | .int i, .int j => some (decide (j ≤ i))
    | _, _ => none
  | .Is => match b with
    | .none => some (match a with
      | .none => true
      | _ => false)
    | .bool y => match a with
      | .bool x => some (decide (x = y))
      | _ => none
    | _ => none
  | .IsNot => match b with
    | .none => some (match a with
      | .none => false
      | _ => true)
    | .bool y => match a with
      | .bool x => some (!decide (x = y))
      | _ => none
    | _ => none
  | .In => match b with
    | .list ds => if SeqAt.shaped a = true ∧ SeqAt.shaped b = true then some (ds.any fun z => PyData.eqv z a) else none
    | .tuple ds => if SeqAt.shaped a = true ∧ SeqAt.shaped b = true then some (ds.any fun z => PyData.eqv z a) else none
    | _ => none
  | .NotIn => match b with
    | .list ds => if SeqAt.shaped a = true ∧ SeqAt.shaped b = true then some (!ds.any fun z => PyData.eqv z a) else none
    | .tuple ds => if SeqAt.shaped a = true ∧ SeqAt.shaped b = true then some (!ds.any fun z => PyData.eqv z a) else none
    | _ => none
def ixD (a b : PyData) : Option PyData :=
  match a, b with
  | .list xs, .int i => atI xs i
  | .tuple xs, .int i => atI xs i
  | .str z, .int i => if z.length ≤ sizeLine then (atI z.cps.toList i).map fun c => .str ⟨#[c]⟩ else none
  | _, _ => none
def slD (a : PyData) (lo hi : Option Int) : Option Sl :=
  match a with
  | .list xs => some (.o (cutL xs lo hi))
  | .tuple xs => some (.v (.tuple (cutL xs lo hi)))
  | _ => none
def rvD (a : PyData) : Option Sl :=
  match a with
  | .list xs => some (.o xs.reverse)
  | .tuple xs => some (.v (.tuple xs.reverse))
  | _ => none
/-- ascending, each once -/
def insU (x : Int) : List Int → List Int
  | [] => [x]
  | y :: r => if x = y then y :: r else if x < y then x :: y :: r else y :: insU x r
def ascU : List Int → List Int
  | [] => []
  | x :: r => insU x (ascU r)
def srsD : PyData → Option Sl
  | .tuple ds => (intsD ds).bind fun ns => if ns.length < 60 then some (.o ((ascU ns).map .int)) else none
  | _ => none
def boolsD : List PyData → Option (List Bool)
  | [] => some []
  | .bool i :: r => (boolsD r).bind fun l => some (i :: l)
  | _ :: _ => none
def maxI : List Int → Option Int
  | [] => none
  | a :: r => some (r.foldl max a)
def minI : List Int → Option Int
  | [] => none
  | a :: r => some (r.foldl min a)
def tupD : PyData → Option (List Int)
  | .tuple ds => intsD ds
  | _ => none
def tupsD : List PyData → Option (List (List Int))
  | [] => some []
  | d :: r => (tupD d).bind fun t => (tupsD r).bind fun l => some (t :: l)
def insS {α : Type} (lt : α → α → Bool) (x : α) : List α → List α
  | [] => [x]
  | y :: r => if lt y x = true then y :: insS lt x r else x :: y :: r
def sortS {α : Type} (lt : α → α → Bool) : List α → List α
  | [] => []
  | x :: r => insS lt x (sortS lt r)
def sortD (xs : List PyData) : Option (List PyData) :=
  match intsD xs with
  | some ns => some ((sortS (fun a b => decide (a < b)) ns).map .int)
  | none => match tupsD xs with
    | some ts => if ts.length ≤ 1 ∨ ts.all (fun t => !t.isEmpty) = true then some ((sortS lexI ts).map fun t => .tuple (t.map .int)) else none
    | none => none
/-! ### dicts -/
def keyD : PyData → Option L2.Key
  | .int i => some (.inl i)
  | .str x => some (.inr x)
  | _ => none
def dlook (kvs : List (PyData × PyData)) (k : L2.Key) : Option PyData :=
  match kvs with
  | [] => none
  | p :: r => if keyD p.1 = some k then some p.2 else dlook r k
def dput (kvs : List (PyData × PyData)) (y : PyData) (k : L2.Key) (v : PyData) : List (PyData × PyData) :=
  if (kvs.any fun p => decide (keyD p.1 = some k)) = true then kvs.map (fun p => if keyD p.1 = some k then (p.1, v) else p) else kvs ++ [(y, v)]
def pairsD : List PyData → Option (List (PyData × PyData))
  | [] => some []
  | k :: v :: r => (keyD k).bind fun _ => (pairsD r).bind fun l => some ((k, v) :: l)
  | _ :: [] => none
def mergeD (kvs more : List (PyData × PyData)) : List (PyData × PyData) := more.foldl (fun acc p => match keyD p.1 with
  | some k => dput acc p.1 k p.2
  | none => acc) kvs
/-- the dict that a name holds -/
def dctAt (env : En) (i : Nat) : Option (List (PyData × PyData)) := match env.at i with
  | some (.w kvs) => some kvs
  | some (.v (.dict kvs)) => if fnQ kvs = true then none else some kvs
  | _ => none
/-- a list of pairs, for dict(..) -/
def prsD : List PyData → Option (List (PyData × PyData))
  | [] => some []
  | .tuple [k, v] :: r => (keyD k).bind fun _ => (prsD r).bind fun l => some ((k, v) :: l)
  | _ :: _ => none

mutual
/-- no list in it -/
def nol : PyData → Bool
  | .list xs => nolA xs
  | .tuple xs => nolA xs
  | .dict kvs => !fnQ kvs && nolK kvs
  | _ => true
def nolA : List PyData → Bool
  | [] => true
  | x :: r => nol x && nolA r
def nolK : List (PyData × PyData) → Bool
  | [] => true
  | (_, e) :: r => nol e && nolK r
end
mutual
/-- no list anywhere -/
def nls : PyData → Bool
  | .list _ => false
  | .tuple xs => nlsA xs
  | .dict kvs => nlsK kvs
  | _ => true
def nlsA : List PyData → Bool
  | [] => true
  | x :: r => nls x && nlsA r
def nlsK : List (PyData × PyData) → Bool
  | [] => true
  | (_, e) :: r => nls e && nlsK r
end
def fnD (f : BF) (ds : List PyData) : Option Sl :=
  match f, ds with
  | .len, [.list xs] => some (.v (.int xs.length))
  | .len, [.tuple xs] => some (.v (.int xs.length))
  | .len, [.str z] => if z.length ≤ sizeLine then some (.v (.int z.length)) else none
  | .abs, [.int i] => some (.v (.int (if i < 0 then -i else i)))
  | .int, [.int i] => some (.v (.int i))
  | .int, [.bool k] => some (.v (.int (if k then 1 else 0)))
  | .max2, [.int i, .int j] => some (.v (.int (if j > i then j else i)))
  | .min2, [.int i, .int j] => some (.v (.int (if j < i then j else i)))
  | .sum, [.list xs] => (intsD xs).bind fun ns => some (.v (.int ns.sum))
  | .repr, [d] => if PyData.showable d = true ∧ d.shown.length ≤ sizeLine ∧ (d.hasDict = false ∨ nol d = true) ∧ PyData.depth d ≤ 60 then some (.v (.str d.shown)) else none
  | .tuple, [.list xs] => some (.v (.tuple xs))
  | .tuple, [.tuple xs] => some (.v (.tuple xs))
  | .list, [.list xs] => some (.o xs)
  | .list, [.tuple xs] => some (.o xs)
  | .sum, [.tuple xs] => (intsD xs).bind fun ns => some (.v (.int ns.sum))
  | .all, [.list xs] => (boolsD xs).bind fun bs => some (.v (.bool (bs.all id)))
  | .any, [.list xs] => (boolsD xs).bind fun bs => some (.v (.bool (bs.any id)))
  | .max1, [.list xs] => (intsD xs).bind fun ns => (maxI ns).bind fun m => some (.v (.int m))
  | .min1, [.list xs] => (intsD xs).bind fun ns => (minI ns).bind fun m => some (.v (.int m))
  | .max1, [.tuple xs] => (intsD xs).bind fun ns => (maxI ns).bind fun m => some (.v (.int m))
  | .min1, [.tuple xs] => (intsD xs).bind fun ns => (minI ns).bind fun m => some (.v (.int m))
  | .sorted, [.list xs] => (sortD xs).bind fun ys => some (.o ys)
  | .len, [.dict kvs] => if fnQ kvs = true then none else some (.v (.int kvs.length))
  | .list, [.dict kvs] => if fnQ kvs = true then none else some (.o (kvs.map (·.1)))
  | .sorted, [.dict kvs] => (intsD (kvs.map (·.1))).bind fun ns => if ns.length < 64 then some (.o ((sortS (fun a b => decide (a < b)) ns).map .int)) else none
  | .dict, [.list xs] => (prsD xs).bind fun kvs => some (.w (mergeD [] kvs))
  | .str, [.int i] => if i.natAbs.log2 < 60 then some (.v (.str (toString i))) else none
  | .divmod, [.int i, .int j] => if 0 < j ∧ j.natAbs.log2 < 29 then some (.v (.tuple [.int (i / j), .int (i % j)])) else none
  | _, _ => none
def tyD : PyData → String
  | .none => "NoneType"
  | .bool _ => "bool"
  | .int _ => "int"
  | .str _ => "str"
  | .list _ => "list"
  | .tuple _ => "tuple"
  | .dict _ => "dict"
def isiD (d : PyData) (t : String) : Bool := decide (tyD d = t) || (decide (tyD d = "bool") && decide (t = "int"))
def mtD (m : MT) (xs ds : List PyData) : Option (PyData × List PyData) :=
  match m, ds with
  | .append, [d] => if xs.length < sizeLine then some (.none, xs ++ [d]) else none
  | .pop, [] => (xs[xs.length - 1]?).bind fun d => some (d, xs.dropLast)
  | .insert, [.int i, d] => if 0 ≤ i ∧ i ≤ xs.length ∧ xs.length < sizeLine then some (.none, xs.take i.toNat ++ d :: xs.drop i.toNat) else none
  | .extend, [.list ys] => if xs.length + ys.length ≤ sizeLine then some (.none, xs ++ ys) else none
  | _, _ => none
def rngD (lo : Int) (n : Nat) : List PyData := (List.range n).map fun (i : Nat) => .int (lo + i)
def dwnD (hi : Int) (n : Nat) : List PyData := (List.range n).map fun (i : Nat) => .int (hi + (i : Int) * -1)
def rngO (i j : Int) : Option (List PyData) := if i.natAbs.log2 < 61 ∧ j.natAbs.log2 < 61 then some (rngD i (j - i).toNat) else none
def dwnO (i j : Int) : Option (List PyData) := if i.natAbs.log2 < 61 ∧ j.natAbs.log2 < 61 then some (dwnD i (i - j).toNat) else none
def lrgO (i j : Int) : Option (List PyData) := if i.natAbs.log2 < 61 ∧ j.natAbs.log2 < 61 ∧ (j - i).toNat ≤ 2 ^ 24 then some (rngD i (j - i).toNat) else none
def zipD : List PyData → List PyData → List PyData
  | a :: r, b :: s => .tuple [a, b] :: zipD r s
  | _, _ => []
def zip3D : List PyData → List PyData → List PyData → List PyData
  | a :: r, b :: s, c :: t => .tuple [a, b, c] :: zip3D r s t
  | _, _, _ => []
/-- the items of a list or a tuple -/
def seqD : PyData → Option (List PyData)
  | .list xs => some xs
  | .tuple xs => some xs
  | _ => none
def enumD : Nat → List PyData → List PyData
  | _, [] => []
  | i, a :: r => .tuple [.int i, a] :: enumD (i + 1) r

/-! ### targets -/
def En.put (env : En) (i : Nat) (s : Sl) : Option En :=
  match env.at i with
  | some (.b _) => none
  | _ => some (env.set i (some s))
mutual
def runG : IG → PyData → En → Option En
  | .n i, d, env => env.put i (.v d)
  | .t gs, d, env => match d with
    | .tuple ds => runGs gs ds env
    | _ => none
def runGs : IGs → List PyData → En → Option En
  | .nil, [], env => some env
  | .cons g r, d :: ds, env => (runG g d env).bind fun env' => runGs r ds env'
  | _, _, _ => none
end

/-! ### expressions -/
abbrev RE := Option (Sl × En)
def hd (e : IE) (r : RE) (env : En) : Option (Hd × En) :=
  match e with
  | .x i => if (env.at i).isSome then some (.s i, env) else none
  | _ => r.bind fun p => some (.d p.1.d, p.2)
def useI (env : En) (i : Nat) : RE :=
  match env.at i with
  | some (.v d) => some (.v d, env)
  | some (.o ds) => some (.v (.list ds), env.set i (some (.v (.list ds))))
  | some (.w kvs) => some (.v (.dict kvs), env.set i (some (.v (.dict kvs))))
  | _ => none
def mutAt (env : En) (i : Nat) : Bool := match env.at i with
  | some (.o _) => true
  | some (.b _) => true
  | _ => false
def noOwn (env : En) : List (Str × Nat) → Bool
  | [] => true
  | p :: r => (match env.at p.2 with
    | some (.o _) => false
    | some (.b _) => false
    | some (.w _) => false
    | _ => true) && noOwn env r
/-- the list that a name may change; the same behind the change -/
def atS (env : En) (i : Nat) : Option (List PyData) := match env.at i with
  | some (.o xs) => some xs
  | some (.b xs) => some xs
  | _ => none
def setS (env : En) (i : Nat) (xs : List PyData) : Option En := match env.at i with
  | some (.o _) => some (env.set i (some (.o xs)))
  | some (.b _) => some (env.set i (some (.b xs)))
  | _ => none
/-- the keys of the dict that stands in a name, data -/
def keysAt (env : En) (i : Nat) : Option (List PyData) := match env.at i with
  | some (.v (.dict kvs)) => if fnQ kvs = true then none else some (kvs.map (·.1))
  | _ => none
mutual
def eqP : PyData → PyData → Bool
  | .none, .none => true
  | .bool a, .bool b => a == b
  | .int a, .int b => decide (a = b)
  | .str a, .str b => decide (a = b)
  | .list a, .list b => eqPs a b
  | .tuple a, .tuple b => eqPs a b
  | _, _ => false
def eqPs : List PyData → List PyData → Bool
  | [], [] => true
  | a :: r, b :: s => eqP a b && eqPs r s
  | _, _ => false
end
def sameL (env : En) (i : Nat) (ds : List PyData) : Bool := match atS env i with
  | some es => eqPs es ds
  | none => false
def wipeS (env : En) : List Nat → En
  | [] => env
  | i :: r => (wipeS env r).set i none
def wipeE (env : En) : List (Str × Nat) → En
  | [] => env
  | p :: r => (wipeE env r).set p.2 none
/-- behind a comprehension its own names are what they were -/
def backE (env0 env : En) : List (Str × Nat) → En
  | [] => env
  | p :: r => (backE env0 env r).set p.2 ((env0[p.2]?).join)
def compD (turn : PyData → En → Option (Option PyData × En)) : List PyData → En → Option (List PyData × En)
  | [], env => some ([], env)
  | d :: ds, env => (turn d env).bind fun p => (compD turn ds p.2).bind fun q => match p.1 with
    | some y => some (y :: q.1, q.2)
    | none => some q
def un1 (h : Option (Hd × En)) (f : PyData → Option Sl) : RE := h.bind fun p => (p.1.get p.2).bind fun d => (f d).bind fun r => some (r, p.2)
def tr1 (h : Option (Hd × En)) : Option (Bool × En) := h.bind fun p => (p.1.get p.2).bind fun d => (truD d).bind fun r => some (r, p.2)
abbrev Tab := Nat → List Sl → Option (Sl × List PyData)

/-- the name holds this def -/
def fnAt (env : En) (i : Nat) (x : Str) : Bool := match env.at i with
  | some (.v (.dict [(.none, .str y)])) => decide (y = x)
  | _ => false
mutual
def runE (Γ : Tab) (C : List (Str × PyData)) : IE → En → RE
  | .k d, env => some (.v d, env)
  | .g x, env => (C.lookup x).bind fun d => some (.v d, env)
  | .x i, env => useI env i
  | .bin op a b, env => (hd a (runE Γ C a env) env).bind fun p => (hd b (runE Γ C b p.2) p.2).bind fun q =>
      (p.1.get q.2).bind fun x => (q.1.get q.2).bind fun y => (binD op x y).bind fun r => some (r, q.2)
  | .neg a, env => un1 (hd a (runE Γ C a env) env) fun d => match d with
      | .int i => some (.v (.int (-i)))
      | _ => none
  | .not a, env => un1 (hd a (runE Γ C a env) env) fun d => (truD d).bind fun b => some (.v (.bool !b))
  | .and a b, env => (runE Γ C a env).bind fun p => (truD p.1.d).bind fun t => if t = true then runE Γ C b p.2 else some (.v p.1.d, p.2)
  | .or a b, env => (runE Γ C a env).bind fun p => (truD p.1.d).bind fun t => if t = true then some (.v p.1.d, p.2) else runE Γ C b p.2
  | .cmp op a b, env => (hd a (runE Γ C a env) env).bind fun p => (hd b (runE Γ C b p.2) p.2).bind fun q =>
      (p.1.get q.2).bind fun x => (q.1.get q.2).bind fun y => (cmpD op x y).bind fun r => some (.v (.bool r), q.2)
  | .ch op op' a b c, env => (hd a (runE Γ C a env) env).bind fun p => (hd b (runE Γ C b p.2) p.2).bind fun q =>
      (p.1.get q.2).bind fun x => (q.1.get q.2).bind fun y => (cmpD op x y).bind fun r => if r = true then
        (hd c (runE Γ C c q.2) q.2).bind fun w => (q.1.get w.2).bind fun y' => (w.1.get w.2).bind fun z => (cmpD op' y' z).bind fun r' => some (.v (.bool r'), w.2)
      else some (.v (.bool false), q.2)
  | .ch3 op op' op'' a b c d, env => (hd a (runE Γ C a env) env).bind fun p => (hd b (runE Γ C b p.2) p.2).bind fun q =>
      (p.1.get q.2).bind fun x => (q.1.get q.2).bind fun y => (cmpD op x y).bind fun r => if r = true then
        (hd c (runE Γ C c q.2) q.2).bind fun w => (q.1.get w.2).bind fun y' => (w.1.get w.2).bind fun z => (cmpD op' y' z).bind fun r' => if r' = true then
          (hd d (runE Γ C d w.2) w.2).bind fun u => (w.1.get u.2).bind fun z' => (u.1.get u.2).bind fun t => (cmpD op'' z' t).bind fun r'' => some (.v (.bool r''), u.2)
        else some (.v (.bool false), w.2)
      else some (.v (.bool false), q.2)
  | .ife t a b, env => (runT Γ C t env).bind fun p => if p.1 = true then runE Γ C a p.2 else runE Γ C b p.2
  | .ix a b, env => (hd a (runE Γ C a env) env).bind fun p => (hd b (runE Γ C b p.2) p.2).bind fun q =>
      (p.1.get q.2).bind fun x => (q.1.get q.2).bind fun y => (ixD x y).bind fun r => some (.v r, q.2)
  | .sl a lo hi, env => (hd a (runE Γ C a env) env).bind fun p => (runO Γ C lo p.2).bind fun q => (runO Γ C hi q.2).bind fun w =>
      (p.1.get w.2).bind fun x => (slD x q.1 w.1).bind fun r => some (r, w.2)
  | .rv a, env => un1 (hd a (runE Γ C a env) env) rvD
  | .srs a, env => un1 (hd a (runE Γ C a env) env) srsD
  | .tup es, env => (runV Γ C es env).bind fun p => (getD p.1).bind fun ds => if ds.length ≤ sizeLine then some (.v (.tuple ds), p.2) else none
  | .lst es, env => (runV Γ C es env).bind fun p => (getD p.1).bind fun ds => if ds.length ≤ sizeLine then some (.o ds, p.2) else none
  | .fn f es, env => (runL Γ C es env).bind fun p => (getL p.2 p.1).bind fun ds => (fnD f ds).bind fun r => some (r, p.2)
  | .isi a t, env => un1 (hd a (runE Γ C a env) env) fun d => if isF d = true then none else some (.v (.bool (isiD d t)))
  | .call f es, env => (runV Γ C es env).bind fun p => (getA p.2 false p.1).bind fun as => (Γ f as).bind fun r => some (r.1, putA p.2 p.1 r.2)
  | .act i f x es, env => if fnAt env i x = true then (runV Γ C es env).bind fun p => (getA p.2 false p.1).bind fun as => (Γ f as).bind fun r => some (r.1, putA p.2 p.1 r.2) else none
  | .lc own g it c e, env => (runI Γ C it env).bind fun p => if noOwn p.2 own = true then
      (compD (fun d en => (runG g d en).bind fun en1 => (runT Γ C c en1).bind fun t => if t.1 = true then (runE Γ C e t.2).bind fun y => some (some y.1.d, wipeE y.2 own) else some (none, wipeE t.2 own)) p.1 (wipeE p.2 own)).bind fun q =>
        if q.1.length ≤ sizeLine then some (.o q.1, backE p.2 q.2 own) else none
      else none
  | .lcl own i g c e, env => (atS env i).bind fun ds => if noOwn env own = true ∧ (own.all fun p => !decide (p.2 = i)) = true then
      (compD (fun d en => if sameL en i ds = true then (runG g d en).bind fun en1 => (runT Γ C c en1).bind fun t => if t.1 = true then (runE Γ C e t.2).bind fun y => some (some y.1.d, wipeE y.2 own) else some (none, wipeE t.2 own) else none) ds (wipeE env own)).bind fun q =>
        if sameL q.2 i ds = true ∧ q.1.length ≤ sizeLine then some (.o q.1, backE env q.2 own) else none
      else none
  | .lrg a, env => (hd a (runE Γ C a env) env).bind fun p => (p.1.get p.2).bind fun d => match d with
      | .int j => (lrgO 0 j).bind fun ds => some (.o ds, p.2)
      | _ => none
  | .lrg2 a b, env => (hd a (runE Γ C a env) env).bind fun p => (hd b (runE Γ C b p.2) p.2).bind fun q =>
      (p.1.get q.2).bind fun x => (q.1.get q.2).bind fun y => match x, y with
      | .int i, .int j => (lrgO i j).bind fun ds => some (.o ds, q.2)
      | _, _ => none
  | .mt m i es, env => if mutAt env i = true then (runV Γ C es env).bind fun p => (getD p.1).bind fun ds => match p.2.at i with
      | some (.o xs) => (mtD m xs ds).bind fun r => some (.v r.1, p.2.set i (some (.o r.2)))
      | some (.b xs) => (mtD m xs ds).bind fun r => some (.v r.1, p.2.set i (some (.b r.2)))
      | _ => none
    else none
  | .dic es, env => (runV Γ C es env).bind fun p => (getD p.1).bind fun ds => (pairsD ds).bind fun kvs => if kvs.length ≤ 15 then some (.w (mergeD [] kvs), p.2) else none
  | .dget i k e, env => (dctAt env i).bind fun _ => (hd k (runE Γ C k env) env).bind fun p => (runE Γ C e p.2).bind fun q => (p.1.get q.2).bind fun y => (keyD y).bind fun z => (dctAt q.2 i).bind fun kvs =>
      some (.v ((dlook kvs z).getD q.1.d), q.2)
  | .dix i k, env => (dctAt env i).bind fun _ => (hd k (runE Γ C k env) env).bind fun p => (p.1.get p.2).bind fun y => (keyD y).bind fun z => (dctAt p.2 i).bind fun kvs => (dlook kvs z).bind fun d => some (.v d, p.2)
  | .din n i k, env => (hd k (runE Γ C k env) env).bind fun p => (p.1.get p.2).bind fun y => (keyD y).bind fun z => (dctAt p.2 i).bind fun kvs => some (.v (.bool (xor n (dlook kvs z).isSome)), p.2)
  | .bits a, env => un1 (hd a (runE Γ C a env) env) fun d => match d with
      | .int i => some (.v (.int (Builtin.Int.intBits i : Nat)))
      | _ => none
  | .lcd own i g c e, env => (keysAt env i).bind fun ds => if noOwn env own = true then
      (compD (fun d en => (runG g d en).bind fun en1 => (runT Γ C c en1).bind fun t => if t.1 = true then (runE Γ C e t.2).bind fun y => some (some y.1.d, wipeE y.2 own) else some (none, wipeE t.2 own)) ds (wipeE env own)).bind fun q =>
        if q.1.length ≤ sizeLine then some (.o q.1, backE env q.2 own) else none
      else none
  | .dcm own g it c k e, env => (runI Γ C it env).bind fun p => if noOwn p.2 own = true then
      (compD (fun d en => (runG g d en).bind fun en1 => (runT Γ C c en1).bind fun t => if t.1 = true then (runE Γ C k t.2).bind fun x => (runE Γ C e x.2).bind fun y => (keyD x.1.d).bind fun _ => some (some (.tuple [x.1.d, y.1.d]), wipeE y.2 own) else some (none, wipeE t.2 own)) p.1 (wipeE p.2 own)).bind fun q =>
        if q.1.length ≤ sizeLine then (prsD q.1).bind fun kvs => some (.w (mergeD [] kvs), backE p.2 q.2 own) else none
      else none
def runT (Γ : Tab) (C : List (Str × PyData)) : IT → En → Option (Bool × En)
  | .yes, env => some (true, env)
  | .e a, env => tr1 (hd a (runE Γ C a env) env)
  | .not a, env => (runT Γ C a env).bind fun p => some (!p.1, p.2)
  | .and a b, env => (runT Γ C a env).bind fun p => if p.1 = true then runT Γ C b p.2 else some (false, p.2)
  | .or a b, env => (runT Γ C a env).bind fun p => if p.1 = true then some (true, p.2) else runT Γ C b p.2
  | .ife t a b, env => (runT Γ C t env).bind fun p => if p.1 = true then runT Γ C a p.2 else runT Γ C b p.2
def runL (Γ : Tab) (C : List (Str × PyData)) : IL → En → Option (List Hd × En)
  | .nil, env => some ([], env)
  | .cons a r, env => (hd a (runE Γ C a env) env).bind fun p => (runL Γ C r p.2).bind fun q => some (p.1 :: q.1, q.2)
  | .star _ _, _ => none
  | .io _ _, _ => none
def runV (Γ : Tab) (C : List (Str × PyData)) : IL → En → Option (List Hd × En)
  | .nil, env => some ([], env)
  | .cons a r, env => (runE Γ C a env).bind fun p => (runV Γ C r p.2).bind fun q => some (.d p.1.d :: q.1, q.2)
  | .star a r, env => (runE Γ C a env).bind fun p => match p.1.d with
      | .list ds => (runV Γ C r p.2).bind fun q => some (ds.map Hd.d ++ q.1, q.2)
      | .tuple ds => (runV Γ C r p.2).bind fun q => some (ds.map Hd.d ++ q.1, q.2)
      | _ => none
  | .io i r, env => if (env.at i).isSome then (runV Γ C r env).bind fun q => some (.s i :: q.1, q.2) else none
def runR (Γ : Tab) (C : List (Str × PyData)) : IL → En → Option (List Sl × En)
  | .nil, env => some ([], env)
  | .cons a r, env => (runE Γ C a env).bind fun p => (runR Γ C r p.2).bind fun q => some (p.1 :: q.1, q.2)
  | .star _ _, _ => none
  | .io _ _, _ => none
def runO (Γ : Tab) (C : List (Str × PyData)) : IO → En → Option (Option Int × En)
  | .no, env => some (none, env)
  | .so a, env => (hd a (runE Γ C a env) env).bind fun p => (p.1.get p.2).bind fun d => match d with
      | .int i => some (some i, p.2)
      | _ => none
def runI (Γ : Tab) (C : List (Str × PyData)) : II → En → Option (List PyData × En)
  | .e a, env => (runE Γ C a env).bind fun p => match p.1.d with
      | .list ds => some (ds, p.2)
      | .tuple ds => some (ds, p.2)
      | _ => none
  | .r1 a, env => (hd a (runE Γ C a env) env).bind fun p => (p.1.get p.2).bind fun d => match d with
      | .int j => (rngO 0 j).bind fun ds => some (ds, p.2)
      | _ => none
  | .r2 a b, env => (hd a (runE Γ C a env) env).bind fun p => (hd b (runE Γ C b p.2) p.2).bind fun q =>
      (p.1.get q.2).bind fun x => (q.1.get q.2).bind fun y => match x, y with
      | .int i, .int j => (rngO i j).bind fun ds => some (ds, q.2)
      | _, _ => none
  | .rd a b, env => (hd a (runE Γ C a env) env).bind fun p => (hd b (runE Γ C b p.2) p.2).bind fun q =>
      (p.1.get q.2).bind fun x => (q.1.get q.2).bind fun y => match x, y with
      | .int i, .int j => (dwnO i j).bind fun ds => some (ds, q.2)
      | _, _ => none
  | .zip a b, env => (runE Γ C a env).bind fun p => (runE Γ C b p.2).bind fun q => (seqD p.1.d).bind fun xs => (seqD q.1.d).bind fun ys => some (zipD xs ys, q.2)
  | .zip3 a b c, env => (runE Γ C a env).bind fun p => (runE Γ C b p.2).bind fun q => (runE Γ C c q.2).bind fun r =>
      (seqD p.1.d).bind fun xs => (seqD q.1.d).bind fun ys => (seqD r.1.d).bind fun zs => some (zip3D xs ys zs, r.2)
  | .enum a, env => (runE Γ C a env).bind fun p => match p.1.d with
      | .list ds => some (enumD 0 ds, p.2)
      | .tuple ds => some (enumD 0 ds, p.2)
      | _ => none
end

/-! ### statements -/
inductive Fl where
  | nx (env : En)
  | bk (env : En)
  | ct (env : En)
  | rt (r : Sl) (env : En)
/-- behind a turn the names that no later line reads are forgotten -/
def wipF (ws : List Nat) : Fl → Fl
  | .nx e => .nx (wipeS e ws)
  | .bk e => .bk (wipeS e ws)
  | .ct e => .ct (wipeS e ws)
  | .rt r e => .rt r e
def forD (body : PyData → En → Option Fl) : List PyData → En → Option Fl
  | [], env => some (.nx env)
  | d :: ds, env => (body d env).bind fun f => match f with
    | .nx e => forD body ds e
    | .ct e => forD body ds e
    | .bk e => some (.nx e)
    | .rt r e => some (.rt r e)
def whileD (c : En → Option (Bool × En)) (body : En → Option Fl) : Nat → En → Option Fl
  | 0, _ => none
  | n + 1, env => (c env).bind fun p => if p.1 = true then (body p.2).bind fun f => match f with
    | .nx e => whileD c body n e
    | .ct e => whileD c body n e
    | .bk e => some (.nx e)
    | .rt r e => some (.rt r e)
    else some (.nx p.2)
/-- several names take several values -/
def putN : List Nat → List Sl → En → Option En
  | [], [], env => some env
  | i :: is, s :: ss, env => (env.put i s).bind fun e => putN is ss e
  | _, _, _ => none
mutual
def runS (Γ : Tab) (C : List (Str × PyData)) (F : Nat) : IS → En → Option Fl
  | .set i e, env => (runE Γ C e env).bind fun p => (p.2.put i p.1).bind fun env' => some (.nx env')
  | .tgt gs e, env => (runE Γ C e env).bind fun p => match p.1.d with
      | .tuple ds => (runGs gs ds p.2).bind fun env' => some (.nx env')
      | _ => none
  | .par2 i j a b, env => (runE Γ C a env).bind fun p => (runE Γ C b p.2).bind fun q => (q.2.put i p.1).bind fun e1 => (e1.put j q.1).bind fun e2 => some (.nx e2)
  | .par3 i j l a b c, env => (runE Γ C a env).bind fun p => (runE Γ C b p.2).bind fun q => (runE Γ C c q.2).bind fun w =>
      (w.2.put i p.1).bind fun e1 => (e1.put j q.1).bind fun e2 => (e2.put l w.1).bind fun e3 => some (.nx e3)
  | .parn is es, env => (runR Γ C es env).bind fun p => (putN is p.1 p.2).bind fun e => some (.nx e)
  | .six i k e, env => (runE Γ C e env).bind fun p => if mutAt p.2 i = true then (hd k (runE Γ C k p.2) p.2).bind fun q => (q.1.get q.2).bind fun y => match y with
      | .int z => (atS q.2 i).bind fun xs => (ixN xs.length z).bind fun j => (setS q.2 i (xs.set j p.1.d)).bind fun env' => some (.nx env')
      | _ => none
    else none
  | .aug i op e, env => (hd e (runE Γ C e env) env).bind fun p => match env.at i with
      | some (.v x) => (p.1.get p.2).bind fun y => (augD op x y).bind fun d => (p.2.put i (.v d)).bind fun env' => some (.nx env')
      | _ => none
  | .aix i k op e, env => if mutAt env i = true then (hd k (runE Γ C k env) env).bind fun p => (p.1.get p.2).bind fun y => match y with
      | .int z => (atS p.2 i).bind fun xs => (ixN xs.length z).bind fun j => (xs[j]?).bind fun old => (hd e (runE Γ C e p.2) p.2).bind fun q => (q.1.get q.2).bind fun w => (augD op old w).bind fun d =>
          (atS q.2 i).bind fun ys => (ixN ys.length z).bind fun j' => (setS q.2 i (ys.set j' d)).bind fun env' => some (.nx env')
      | _ => none
    else none
  | .ret e, env => (runE Γ C e env).bind fun p => some (.rt p.1 p.2)
  | .retx i, env => match env.at i with
      | some (.o ds) => some (.rt (.o ds) (env.set i none))
      | some (.w kvs) => some (.rt (.w kvs) (env.set i none))
      | some (.v d) => some (.rt (.v d) env)
      | _ => none
  | .retn, env => some (.rt (.v .none) env)
  | .ex e, env => (runE Γ C e env).bind fun p => some (.nx p.2)
  | .cond t a b, env => (runT Γ C t env).bind fun p => if p.1 = true then runB Γ C F a p.2 else runB Γ C F b p.2
  | .for g it b ws, env => (runI Γ C it env).bind fun p => forD (fun d en => (runG g d en).bind fun en1 => (runB Γ C F b en1).bind fun f => some (wipF ws f)) p.1 (wipeS p.2 ws)
  | .wh t b ws, env => whileD (fun en => runT Γ C t en) (fun en => (runB Γ C F b en).bind fun f => some (wipF ws f)) F (wipeS env ws)
  | .brk, env => some (.bk env)
  | .cnt, env => some (.ct env)
  | .pass, env => some (.nx env)
  | .dput i k e, env => (runE Γ C e env).bind fun p => (dctAt p.2 i).bind fun _ => (hd k (runE Γ C k p.2) p.2).bind fun q => (q.1.get q.2).bind fun y => (keyD y).bind fun z => match q.2.at i with
      | some (.w kvs) => if kvs.length < sizeLine then some (.nx (q.2.set i (some (.w (dput kvs y z p.1.d))))) else none
      | _ => none
  | .nev, _ => none
def runB (Γ : Tab) (C : List (Str × PyData)) (F : Nat) : IB → En → Option Fl
  | .nil, env => some (.nx env)
  | .cons s r, env => (runS Γ C F s env).bind fun f => match f with
    | .nx e => runB Γ C F r e
    | .bk e => some (.bk e)
    | .ct e => some (.ct e)
    | .rt x e => some (.rt x e)
end

/-! ### a def -/
/-- an own error class over base, with one field -/
structure Xc where
  name : Str
  base : Str
  fld : Str
  deriving DecidableEq
/-- where a def raises: behind pre, if t, cls(e) -/
structure Rx where
  pre : IB
  t : IT
  cls : Xc
  e : IE
/-- what an except suite returns: a constant; alike(error.fld, e) -/
inductive Hx where
  | k (d : PyData)
  | alk (i f : Nat) (e : IE)
  | ga (j : Nat) (m : Int) (i f : Nat) (e : IE)
/-- a def that is a try of a call, one except clause, and a return of a constant -/
structure Tf where
  f : Nat
  es : IL
  cls : Xc
  suite : Hx
  ret : PyData
  more : Option (Nat × IB) := none
/-- a def that ends with: return g(lambda t: e), g looking for the first int of which that tells -/
structure Ft where
  pre : IB
  g : Nat
  t : Nat
  e : IE
structure Fn where
  name : Str
  ps : List Str
  N : List Str
  body : IB
  rx : Option Rx := none
  tr : Option Tf := none
  alk : Bool := false
  ft : Option Ft := none
  hand : Bool := false
  thaw : Bool := false
def isB : Sl → Bool
  | .b _ => true
  | _ => false
/-- what stands in the lent slot behind the run -/
def outA : List Sl → En → Option (List PyData)
  | [], _ => some []
  | .v _ :: r, env => outA r env.tail
  | .o _ :: _, _ => none
  | .w _ :: _, _ => none
  | .b _ :: r, env => match (env.head?).join with
    | some (.b ds) => some ds
    | _ => none
def startE (n : Nat) (as : List Sl) : En := as.map some ++ List.replicate (n - as.length) none
def runFn (Γ : Tab) (C : List (Str × PyData)) (F : Nat) (f : Fn) (as : List Sl) : Option (Sl × List PyData) :=
  if as.length = f.ps.length then (runB Γ C F f.body (startE f.N.length as)).bind fun fl => match fl with
    | .nx env => (outA as env).bind fun l => some (.v .none, l)
    | .rt r env => (outA as env).bind fun l => some (r, l)
    | _ => none
  else none
def plainAs : List Sl → Bool
  | [] => true
  | .v _ :: r => plainAs r
  | _ :: _ => false
abbrev TabX := Nat → List Sl → Option (Xc × PyData)
/-- what a def raises -/
def runXD (Γ : Tab) (C : List (Str × PyData)) (F : Nat) (f : Fn) (as : List Sl) : Option (Xc × PyData) :=
  match f.rx with
  | none => none
  | some x => if as.length = f.ps.length ∧ plainAs as = true then (runB Γ C F x.pre (startE f.N.length as)).bind fun fl => match fl with
    | .nx env => (runT Γ C x.t env).bind fun p => if p.1 = true then (runE Γ C x.e p.2).bind fun q => some (x.cls, q.1.d) else none
    | _ => none
    else none
/-- the suite's value: a constant, or whether the field is alike a name's int, a constant int -/
def alkI (d : PyData) : Option PyData → Option PyData
  | some (.int j) => match d with
    | .int i => if i = j ∧ i.natAbs.log2 < 1000 then some (.bool true) else none
    | _ => none
  | _ => none
def runH (d : PyData) (env : En) : Hx → Option PyData
  | .k z => some z
  | .alk i _ (.x j) => if i = j then none else alkI d (match env.at j with
    | some (.v z) => some z
    | _ => none)
  | .alk _ _ (.k z) => alkI d (some z)
  | .alk _ _ _ => none
  | .ga _ _ _ _ _ => none
/-- a name's int is greater, the field alike, the error a ValueError -/
def runG2 (d : PyData) (env : En) : Hx → Option PyData
  | .ga j m i g e => match env.at j with
    | some (.v (.int n)) => if m < n ∧ ¬ i = j then runH d env (.alk i g e) else none
    | _ => none
  | h => runH d env h
/-- behind the call: its result in a name, and what follows -/
def runMo (Γ : Tab) (C : List (Str × PyData)) (F : Nat) (env : En) (r : Sl) (i : Nat) (b : IB) : Option (Sl × List PyData) :=
  (env.put i r).bind fun e1 => (runB Γ C F b e1).bind fun fl => match fl with
    | .nx _ => some (.v .none, [])
    | .rt r _ => some (r, [])
    | _ => none
def runTD (Γ : Tab) (Γx : TabX) (C : List (Str × PyData)) (F : Nat) (f : Fn) (t : Tf) (as : List Sl) : Option (Sl × List PyData) :=
  if as.length = f.ps.length ∧ plainAs as = true then (runV Γ C t.es (startE f.N.length as)).bind fun p => (getD p.1).bind fun ds =>
    match Γx t.f (ds.map .v) with
    | some (c, d) => if c = t.cls then (runG2 d p.2 t.suite).bind fun z => some (.v z, []) else none
    | none => (Γ t.f (ds.map .v)).bind fun q => match t.more with
      | none => some (.v t.ret, [])
      | some x => runMo Γ C F p.2 q.1 x.1 x.2
  else none
/-- the first int from 1 on of which p tells, by doubling and halving -/
def upD (p : Int → Option Bool) : Nat → Int → Option Int
  | 0, _ => none
  | n + 1, h => (p h).bind fun b => if b = true then some h else if (2 : Int).natAbs.log2 + h.natAbs.log2 < 1000000 then upD p n (2 * h) else none
def downD (p : Int → Option Bool) : Nat → Int → Int → Option Int
  | 0, _, _ => none
  | n + 1, l, h => if 1 < h - l then (p ((l + h) / 2)).bind fun b => if b = true then downD p n l ((l + h) / 2) else downD p n ((l + h) / 2) h else some h
def firstD (p : Int → Option Bool) (F : Nat) : Option Int := (upD p F 1).bind fun h => downD p F (h / 2) h
/-- no name holds a thing of its own -/
def allV : En → Bool
  | [] => true
  | none :: r => allV r
  | some (.v _) :: r => allV r
  | some _ :: _ => false
/-- what the lambda tells of n, made where env stands -/
def lamP (Γ : Tab) (C : List (Str × PyData)) (x : Ft) (env : En) (n : Int) : Option Bool :=
  (env.put x.t (.v (.int n))).bind fun e1 => (runE Γ C x.e e1).bind fun q => match q.1 with
    | .v (.bool b) => some b
    | _ => none
def runFT (Γ : Tab) (C : List (Str × PyData)) (F : Nat) (f : Fn) (x : Ft) (as : List Sl) : Option (Sl × List PyData) :=
  if as.length = f.ps.length ∧ plainAs as = true then (runB Γ C F x.pre (startE f.N.length as)).bind fun fl => match fl with
    | .rt (.v d) _ => some (.v d, [])
    | .nx env => if allV env = true then (firstD (lamP Γ C x env) F).bind fun n => some (.v (.int n), []) else none
    | _ => none
  else none
/-- a list that a def hands out is new, where nothing that it was given holds a list -/
def thwD (as : List Sl) : Option (Sl × List PyData) → Option (Sl × List PyData)
  | some (.v (.list ds), l) => if plainAs as = true ∧ (as.all fun s => nls s.d) = true ∧ nlsA ds = true then some (.o ds, l) else none
  | r => r
/-- what the defs return and what they raise -/
def runPX (C : List (Str × PyData)) (F : Nat) (fs : List Fn) : Nat → Tab × TabX
  | 0 => (fun _ _ => none, fun _ _ => none)
  | n + 1 => (fun f as => (fs[f]?).bind fun fn => match fn.tr with
      | none => (match fn.ft with
        | none => if fn.thaw = true then thwD as (runFn (runPX C F fs n).1 C F fn as) else runFn (runPX C F fs n).1 C F fn as
        | some x => runFT (runPX C F fs n).1 C F fn x as)
      | some t => runTD (runPX C F fs n).1 (runPX C F fs n).2 C F fn t as,
    fun f as => if n < 2 then none else (fs[f]?).bind fun fn => runXD (runPX C F fs n).1 C F fn as)
def runP (C : List (Str × PyData)) (F : Nat) (fs : List Fn) (n : Nat) : Tab := (runPX C F fs n).1
def runX (C : List (Str × PyData)) (F : Nat) (fs : List Fn) (n : Nat) : TabX := (runPX C F fs n).2
end PF

/-! PF2: how the names' data stand in the abstract heap (Rel), how it grows (Ext), what a result is (RV). -/
namespace PF
open PySem PySem.Spec PyProof.Rows L2
/-- a list that is read: tracked, known, or one of the module's own, plain -/
def RdL (K : PySem.W.Frag) (H : Hp) (p : Addr) (vs : List V) : Prop :=
  Rd H p (.lst vs) ∨ ∃ (its : List Value) (n : Nat), K.lookup p = some { cls := .type "list", data := .seq its.toArray n } ∧ Vals vs its ∧ vs.length ≤ sizeLine
theorem RdL.sql {K : PySem.W.Frag} {H : Hp} {p : Addr} {vs : List V} (h : RdL K H p vs) : SqL K H p vs := by
  rcases h with h | ⟨its, n, h, r, z⟩
  · exact .inl h
  · refine .inr ⟨_, its.toArray, n, h, rfl, rfl, rfl, ?_, by simpa using r⟩
    rw [List.size_toArray, ← r.length]
    exact z
mutual
/-- data as it stands in the heap -/
inductive Dq (K : PySem.W.Frag) (H : Hp) : V → PyData → Prop
  | non : Dq K H .non .none
  | bl (k : Bool) : Dq K H (.bl k) (.bool k)
  | int (n : Int) : Dq K H (.int n) (.int n)
  | str (z : Str) : Dq K H (.str z) (.str z)
  | lst {p : Addr} {vs : List V} {es : List PyData} : RdL K H p vs → DqAll K H vs es → Dq K H (.ref p) (.list es)
  | tup {p : Addr} {vs : List V} {es : List PyData} : SqT K H p vs → DqAll K H vs es → Dq K H (.ref p) (.tuple es)
  | dct {p : Addr} {ps : List (L2.Key × V)} {es : List (PyData × PyData)} : Rd H p (.dK ps) → DqKV K H ps es → Dq K H (.ref p) (.dict es)
  | fnc {f : Addr} {x : Str} : PySem.W.nsIn K mainGlobals x = some (some (.ref f)) → Dq K H (.ref f) (fnDt x)
inductive DqAll (K : PySem.W.Frag) (H : Hp) : List V → List PyData → Prop
  | nil : DqAll K H [] []
  | cons {x : V} {r : List V} {e : PyData} {es : List PyData} : Dq K H x e → DqAll K H r es → DqAll K H (x :: r) (e :: es)
/-- a dict's entries -/
inductive DqKV (K : PySem.W.Frag) (H : Hp) : List (L2.Key × V) → List (PyData × PyData) → Prop
  | nil : DqKV K H [] []
  | cons {k : L2.Key} {x : V} {r : List (L2.Key × V)} {y e : PyData} {es : List (PyData × PyData)} : keyD y = some k → Dq K H x e → DqKV K H r es → DqKV K H ((k, x) :: r) ((y, e) :: es)
end
section
variable {K : PySem.W.Frag}
mutual
theorem Dq.dp {H : Hp} : ∀ (d : PyData) {x : V}, d.hasDict = false → Dq K H x d → Dp K H x d
  | .none, _, _, h => by
    cases h
    exact .non
  | .bool k, _, _, h => by
    cases h
    exact .bl k
  | .int n, _, _, h => by
    cases h
    exact .int n
  | .str z, _, _, h => by
    cases h
    exact .str z
  | .list ds, _, z, h => by
    cases h with
    | lst h1 h2 => exact .lst h1.sql (DqAll.dp ds (by simpa [PyData.hasDict] using z) h2)
  | .tuple ds, _, z, h => by
    cases h with
    | tup h1 h2 => exact .tup h1 (DqAll.dp ds (by simpa [PyData.hasDict] using z) h2)
  | .dict _, _, z, h => by simp [PyData.hasDict] at z
theorem DqAll.dp {H : Hp} : ∀ (ds : List PyData) {xs : List V}, PyData.hasDictAll ds = false → DqAll K H xs ds → DpAll K H xs ds
  | [], _, _, h => by
    cases h
    exact .nil
  | d :: ds, _, z, h => by
    cases h with
    | cons h1 h2 =>
      have z' : d.hasDict = false ∧ PyData.hasDictAll ds = false := by simpa [PyData.hasDictAll] using z
      exact .cons (Dq.dp d z'.1 h1) (DqAll.dp ds z'.2 h2)
end
theorem rdMono {H H' : Hp} {a : Addr} {o : HO} (e : Same H H') (h : Rd H a o) : Rd H' a o := by
  rcases h with h | ⟨u, h⟩
  · exact .inl (e _ _ h)
  · exact .inr ⟨u, e _ _ h⟩

theorem rdlMono {H H' : Hp} {a : Addr} {vs : List V} (e : Same H H') (h : RdL K H a vs) : RdL K H' a vs := h.imp_left (rdMono e)
theorem sqtMono {H H' : Hp} {a : Addr} {xs : List V} (e : Same H H') (h : SqT K H a xs) : SqT K H' a xs := by
  rcases h with (h | ⟨o, h⟩) | h
  · exact .inl (.inl (e _ _ h))
  · exact .inl (.inr ⟨o, e _ _ h⟩)
  · exact .inr h
mutual
theorem dpMono {H H' : Hp} (s : Same H H') : ∀ (d : PyData) {v : V}, Dq K H v d → Dq K H' v d
  | .none, _, h => by
    cases h
    exact .non
  | .bool b, _, h => by
    cases h
    exact .bl b
  | .int i, _, h => by
    cases h
    exact .int i
  | .str x, _, h => by
    cases h
    exact .str x
  | .list ds, _, h => by
    cases h with
    | lst h1 h2 => exact .lst (rdlMono s h1) (dpAllMono s ds h2)
  | .tuple ds, _, h => by
    cases h with
    | tup h1 h2 => exact .tup (sqtMono s h1) (dpAllMono s ds h2)
  | .dict es, _, h => by
    cases h with
    | dct h1 h2 => exact .dct (rdMono s h1) (dpKVMono s es h2)
    | fnc h1 => exact .fnc h1
theorem dpAllMono {H H' : Hp} (s : Same H H') : ∀ (ds : List PyData) {vs : List V}, DqAll K H vs ds → DqAll K H' vs ds
  | [], _, h => by
    cases h
    exact .nil
  | d :: ds, _, h => by
    cases h with
    | cons h1 h2 => exact .cons (dpMono s d h1) (dpAllMono s ds h2)
theorem dpKVMono {H H' : Hp} (s : Same H H') : ∀ (es : List (PyData × PyData)) {ps : List (L2.Key × V)}, DqKV K H ps es → DqKV K H' ps es
  | [], _, h => by
    cases h
    exact .nil
  | (_, e) :: es, _, h => by
    cases h with
    | cons h0 h1 h2 => exact .cons h0 (dpMono s e h1) (dpKVMono s es h2)
end
theorem dpAll_len {H : Hp} : ∀ {vs : List V} {ds : List PyData}, DqAll K H vs ds → vs.length = ds.length
  | _, [], h => by
    cases h
    rfl
  | _, d :: ds, h => by
    cases h with
    | cons _ h2 => rw [List.length_cons, List.length_cons, dpAll_len h2]
theorem dpAll_get {H : Hp} : ∀ {vs : List V} {ds : List PyData} {i : Nat} {d : PyData}, DqAll K H vs ds → ds[i]? = some d → ∃ v, vs[i]? = some v ∧ Dq K H v d
  | _, [], i, d, h, e => by simp at e
  | _, x :: ds, 0, d, h, e => by
    cases h with
    | cons h1 h2 =>
      have e' : x = d := Option.some.inj e
      subst e'
      exact ⟨_, rfl, h1⟩
  | _, x :: ds, i + 1, d, h, e => by
    cases h with
    | cons h1 h2 =>
      obtain ⟨v, a, b⟩ := dpAll_get (i := i) h2 (by simpa using e)
      exact ⟨v, by simpa using a, b⟩
theorem dpAll_get' {H : Hp} {vs : List V} {ds : List PyData} {i : Nat} {v : V} (h : DqAll K H vs ds) (e : vs[i]? = some v) : ∃ d, ds[i]? = some d ∧ Dq K H v d := by
  have hl := dpAll_len h
  obtain ⟨hi, _⟩ := List.getElem?_eq_some_iff.mp e
  have hi' : i < ds.length := by omega
  obtain ⟨w, e2, q⟩ := dpAll_get h (List.getElem?_eq_getElem hi')
  rw [e] at e2
  cases e2
  exact ⟨_, List.getElem?_eq_getElem hi', q⟩
theorem dpAll_app {H : Hp} : ∀ {vs ws : List V} {ds es : List PyData}, DqAll K H vs ds → DqAll K H ws es → DqAll K H (vs ++ ws) (ds ++ es)
  | _, _, [], _, h, h' => by
    cases h
    exact h'
  | _, _, d :: ds, _, h, h' => by
    cases h with
    | cons h1 h2 => exact .cons h1 (dpAll_app h2 h')
theorem dpAll_drop {H : Hp} : ∀ {vs : List V} {ds : List PyData} (n : Nat), DqAll K H vs ds → DqAll K H (vs.drop n) (ds.drop n)
  | _, _, 0, h => h
  | _, [], n + 1, h => by
    cases h
    exact .nil
  | _, d :: ds, n + 1, h => by
    cases h with
    | cons h1 h2 => exact dpAll_drop n h2
theorem dpAll_take {H : Hp} : ∀ {vs : List V} {ds : List PyData} (n : Nat), DqAll K H vs ds → DqAll K H (vs.take n) (ds.take n)
  | _, _, 0, h => .nil
  | _, [], n + 1, h => by
    cases h
    exact .nil
  | _, d :: ds, n + 1, h => by
    cases h with
    | cons h1 h2 => exact .cons h1 (dpAll_take n h2)
theorem dpAll_rev {H : Hp} : ∀ {vs : List V} {ds : List PyData}, DqAll K H vs ds → DqAll K H vs.reverse ds.reverse
  | _, [], h => by
    cases h
    exact .nil
  | _, d :: ds, h => by
    cases h with
    | cons h1 h2 =>
      rw [List.reverse_cons, List.reverse_cons]
      exact dpAll_app (dpAll_rev h2) (.cons h1 .nil)
theorem dpAll_set {H : Hp} {v : V} {d : PyData} (q : Dq K H v d) : ∀ {vs : List V} {ds : List PyData} (i : Nat), DqAll K H vs ds → DqAll K H (vs.set i v) (ds.set i d)
  | _, [], i, h => by
    cases h
    exact .nil
  | _, x :: ds, 0, h => by
    cases h with
    | cons h1 h2 => exact .cons q h2
  | _, x :: ds, i + 1, h => by
    cases h with
    | cons h1 h2 => exact .cons h1 (dpAll_set q i h2)
theorem dpAll_dropLast {H : Hp} {vs : List V} {ds : List PyData} (h : DqAll K H vs ds) : DqAll K H vs.dropLast ds.dropLast := by
  rw [List.dropLast_eq_take, List.dropLast_eq_take, dpAll_len h]
  exact dpAll_take _ h
theorem dpAll_cut {H : Hp} {vs : List V} {ds : List PyData} (lo hi : Option Int) (h : DqAll K H vs ds) : DqAll K H (cutV vs lo hi) (cutL ds lo hi) := by
  unfold cutV cutL
  rw [dpAll_len h]
  exact dpAll_take _ (dpAll_drop _ h)

/-! ### names and heap -/
/-- what a thing of a name's own holds -/
inductive Ob where
  | l (ds : List PyData)
  | d (kvs : List (PyData × PyData))
def Sl.m : Sl → Option Ob
  | .v _ => none
  | .o ds => some (.l ds)
  | .b ds => some (.l ds)
  | .w kvs => some (.d kvs)
def ObR (K : PySem.W.Frag) (F : Hp) : HO → Ob → Prop
  | .lst vs, .l ds => DqAll K F vs ds
  | .dK ps, .d kvs => DqKV K F ps kvs
  | _, _ => False
theorem ObR.mono {K : PySem.W.Frag} {F F' : Hp} (m : Same F F') {u : HO} {c : Ob} (h : ObR K F u c) : ObR K F' u c := by
  cases c with
  | l ds =>
    cases u with
    | lst vs => exact dpAllMono m ds h
    | _ => exact False.elim h
  | d kvs =>
    cases u with
    | dK vs => exact dpKVMono m kvs h
    | _ => exact False.elim h
theorem ObR.lst {K : PySem.W.Frag} {F : Hp} {u : HO} {ds : List PyData} (h : ObR K F u (.l ds)) : ∃ vs, u = .lst vs ∧ DqAll K F vs ds := by
  cases u with
  | lst vs => exact ⟨vs, rfl, h⟩
  | _ => exact False.elim h
theorem ObR.dct {K : PySem.W.Frag} {F : Hp} {u : HO} {ds : List (PyData × PyData)} (h : ObR K F u (.d ds)) : ∃ vs, u = .dK vs ∧ DqKV K F vs ds := by
  cases u with
  | dK vs => exact ⟨vs, rfl, h⟩
  | _ => exact False.elim h
theorem at_set (env : En) (i : Nat) (s : Option Sl) (j : Nat) : En.at (env.set i s) j = if i = j ∧ i < env.length then s else env.at j := by
  unfold En.at
  rw [List.getElem?_set]
  by_cases h : i = j
  · subst h
    by_cases hl : i < env.length
    · rw [if_pos rfl, if_pos hl, if_pos ⟨rfl, hl⟩]
      rfl
    · rw [if_pos rfl, if_neg hl, if_neg (fun z => hl z.2), List.getElem?_eq_none (by omega)]
  · rw [if_neg h, if_neg (fun z => h z.1)]
theorem at_lt {env : En} {i : Nat} {s : Sl} (h : env.at i = some s) : i < env.length := by
  unfold En.at at h
  cases e : env[i]? with
  | none =>
    rw [e] at h
    cases h
  | some x => exact (List.getElem?_eq_some_iff.mp e).1
theorem st_get {σ : L2.St} {i j : Nat} {x : Option V} : (σ.set i x)[j]? = if i = j then (if i < σ.length then some x else none) else σ[j]? := List.getElem?_set

/-- no table of code objects -/
def NT (o : HO) : Prop := ∀ ps, o ≠ .tbl ps
theorem NT.lst {vs : List V} : NT (.lst vs) := fun _ z => by cases z
theorem NT.dK {ks : List (L2.Key × V)} : NT (.dK ks) := fun _ z => by cases z
theorem NT.frz {o : Obj} {u : HO} : NT (.frz o u) := fun _ z => by cases z
/-- the defs whose bodies make a lambda -/
def lamNames : List Str := ["turn", "least_lead_that"]
/-- the tables of their code objects, and the names that their lambdas bear -/
def TN (K : PySem.W.Frag) (P : Addr) (q : Str) : Prop := ∃ x c, x ∈ lamNames ∧ PySem.W.tabIn K x = some (c, P) ∧ q = x ++ (".<locals>." : Str) ++ ("<lambda>" : Str)
/-- no list was frozen -/
def NFS (H H' : Hp) : Prop := ∀ b o vs, H' b = some (.frz o (.lst vs)) → H b = some (.frz o (.lst vs))
/-- no frozen list -/
def NL (o : HO) : Prop := ∀ b vs, o ≠ .frz b (.lst vs)
theorem NL.lst {vs : List V} : NL (.lst vs) := fun _ _ z => by cases z
theorem NL.tup {vs : List V} : NL (.tup vs) := fun _ _ z => by cases z
theorem NL.dK {vs : List (L2.Key × V)} : NL (.dK vs) := fun _ _ z => by cases z
theorem NL.fdK {o : Obj} {vs : List (L2.Key × V)} : NL (.frz o (.dK vs)) := fun _ _ z => by cases z
theorem NFS.refl (H : Hp) : NFS H H := fun _ _ _ h => h
theorem NFS.trans {H H1 H2 : Hp} (a : NFS H H1) (b : NFS H1 H2) : NFS H H2 := fun c o vs h => a c o vs (b c o vs h)
theorem NFS.upd {H : Hp} {p : Addr} {o : HO} (n : NL o) : NFS H (L2.upd H p o) := fun b x vs e => by
  by_cases hb : b = p
  · subst hb
    rw [upd_same] at e
    exact absurd (Option.some.inj e) (n x vs)
  · rw [upd_ne hb] at e
    exact e
/-- what the tables bear stays, and no list was frozen -/
def Tm (K : PySem.W.Frag) (H H' : Hp) : Prop := (∀ P q, TN K P q → LamX.TabS H P q → LamX.TabS H' P q) ∧ NFS H H'
theorem Tm.refl {K : PySem.W.Frag} (H : Hp) : Tm K H H := ⟨fun _ _ _ h => h, .refl H⟩
theorem Tm.trans {K : PySem.W.Frag} {H H1 H2 : Hp} (a : Tm K H H1) (b : Tm K H1 H2) : Tm K H H2 := ⟨fun P q n h => b.1 P q n (a.1 P q n h), a.2.trans b.2⟩
theorem Tm.same {K : PySem.W.Frag} {H H' : Hp} (h : Same H H') (n : NFS H H') : Tm K H H' := ⟨fun _ _ _ t => t.ext h, n⟩
/-- nothing but data stands there -/
def Da (H : Hp) (p : Addr) : Prop := ∀ u, H p = some u → NT u ∧ ∀ c q, u ≠ LamX.CodeO c q
theorem Da.no {H : Hp} {p : Addr} (h : H p = none) : Da H p := fun u e => by
  rw [h] at e
  cases e
theorem Da.of {H : Hp} {p : Addr} {o : HO} (h : H p = some o) (d : (∃ vs, o = .lst vs) ∨ (∃ ks, o = .dK ks) ∨ ∃ b u, o = .frz b u) : Da H p := fun u e => by
  rw [h] at e
  cases e
  rcases d with ⟨vs, rfl⟩ | ⟨ks, rfl⟩ | ⟨b, u, rfl⟩
  · exact ⟨NT.lst, fun c q z => by
      unfold LamX.CodeO at z
      cases z⟩
  · exact ⟨NT.dK, fun c q z => by
      unfold LamX.CodeO at z
      cases z⟩
  · exact ⟨NT.frz, fun c q z => by
      unfold LamX.CodeO at z
      cases z⟩
theorem Tm.upd {K : PySem.W.Frag} {H : Hp} {p : Addr} {o : HO} (h : Da H p) (nl : NL o := by first | exact NL.lst | exact NL.tup | exact NL.dK | exact NL.fdK | (intro _ _ z; cases z) | (intro _ _ z; unfold LamX.CodeO at z; cases z)) : Tm K H (L2.upd H p o) := ⟨fun P q _ ⟨ps, h1, h2, h3⟩ => by
  have n1 : P ≠ p := by
    rintro rfl
    exact (h _ h1).1 ps rfl
  refine ⟨ps, by rw [upd_ne n1]; exact h1, h2, fun pos cv hc => ?_⟩
  obtain ⟨c, e1, e2⟩ := h3 pos cv hc
  refine ⟨c, e1, ?_⟩
  rw [upd_ne]
  · exact e2
  · rintro rfl
    exact (h _ e2).2 _ _ rfl, .upd nl⟩
theorem ObR.da {K : PySem.W.Frag} {F H : Hp} {u : HO} {c : Ob} {p : Addr} (h : H p = some u) (q : ObR K F u c) : Da H p := by
  cases c with
  | l ds =>
    obtain ⟨vs, rfl, _⟩ := q.lst
    exact .of h (.inl ⟨vs, rfl⟩)
  | d kvs =>
    obtain ⟨vs, rfl, _⟩ := q.dct
    exact .of h (.inr (.inl ⟨vs, rfl⟩))
theorem ObR.nt {K : PySem.W.Frag} {F : Hp} {u : HO} {c : Ob} (q : ObR K F u c) : NT u := by
  cases c with
  | l ds =>
    obtain ⟨vs, rfl, _⟩ := q.lst
    exact NT.lst
  | d kvs =>
    obtain ⟨vs, rfl, _⟩ := q.dct
    exact NT.dK
theorem ObR.nl {K : PySem.W.Frag} {F : Hp} {u : HO} {c : Ob} (q : ObR K F u c) : NL u := by
  cases c with
  | l ds =>
    obtain ⟨vs, rfl, _⟩ := q.lst
    exact NL.lst
  | d kvs =>
    obtain ⟨vs, rfl, _⟩ := q.dct
    exact NL.dK
def TabsN (K : PySem.W.Frag) (H : Hp) : Prop := ∀ P q, TN K P q → LamX.TabS H P q
theorem TabsN.tm {K : PySem.W.Frag} {H H' : Hp} (h : TabsN K H) (t : Tm K H H') : TabsN K H' := fun P q z => t.1 P q z (h P q z)
theorem TabsN.ne {K : PySem.W.Frag} {H : Hp} (h : TabsN K H) {P : Addr} {q : Str} (z : TN K P q) : H P ≠ none := by
  obtain ⟨ps, e, _⟩ := h P q z
  rw [e]
  simp
/-- the entry: its heaps, which name holds which lent list -/
structure Gh where
  H0 : Hp
  F0 : Hp
  B : Nat → Addr → Prop
/-- the tables, and that none of them is data -/
def TabE (K : PySem.W.Frag) (G : Gh) (H : Hp) : Prop := TabsN K H ∧ ∀ P q, TN K P q → G.F0 P = none ∧ G.H0 P ≠ none
def TabF (K : PySem.W.Frag) (F H : Hp) : Prop := TabsN K H ∧ ∀ P q, TN K P q → F P = none
theorem TabE.tm {K : PySem.W.Frag} {G : Gh} {H H' : Hp} (h : TabE K G H) (t : Tm K H H') : TabE K G H' := ⟨h.1.tm t, h.2⟩
theorem TabF.start {K : PySem.W.Frag} {F H : Hp} (h : TabF K F H) {B : Nat → Addr → Prop} : TabE K ⟨H, F, B⟩ H := ⟨h.1, fun P q z => ⟨h.2 P q z, h.1.ne z⟩⟩
def Own (σ : L2.St) (env : En) (p : Addr) : Prop := ∃ i s ds, env.at i = some s ∧ s.m = some ds ∧ σ[i]? = some (some (.ref p))
structure Rel (K : PySem.W.Frag) (G : Gh) (σ : L2.St) (H F : Hp) (env : En) : Prop where
  len : env.length = σ.length
  sub : Same F H
  base : Same G.F0 F
  fro : ∀ b o, G.H0 b = some o → NT o → (∀ i, ¬ G.B i b) → H b = some o
  live : ∀ b, G.H0 b ≠ none → H b ≠ none
  new : ∀ b, F b ≠ none → G.F0 b ≠ none ∨ G.H0 b = none
  val : ∀ i d, env.at i = some (.v d) → ∃ v, σ[i]? = some (some v) ∧ Dq K F v d
  mug : ∀ i s c, env.at i = some s → s.m = some c → ∃ p u, σ[i]? = some (some (.ref p)) ∧ F p = none ∧ H p = some u ∧ ObR K F u c ∧ (isB s = false → G.H0 p = none) ∧ (isB s = true → G.B i p)
  apart : ∀ i j p, i ≠ j → (∃ s ds, env.at i = some s ∧ s.m = some ds) → (∃ s ds, env.at j = some s ∧ s.m = some ds) → σ[i]? = some (some (.ref p)) → σ[j]? = some (some (.ref p)) → False
  tabs : Tm K G.H0 H
  ent : TabE K G H
theorem Rel.entF {K : PySem.W.Frag} {G : Gh} {σ : L2.St} {H F : Hp} {env : En} (R : Rel K G σ H F env) : TabF K F H := ⟨R.ent.1, fun P q z => by
  cases e : F P with
  | none => rfl
  | some o =>
    rcases R.new P (by rw [e]; simp) with y | y
    · exact absurd (R.ent.2 P q z).1 y
    · exact absurd y (R.ent.2 P q z).2⟩
theorem Rel.mu {K : PySem.W.Frag} {G : Gh} {σ : L2.St} {H F : Hp} {env : En} (R : Rel K G σ H F env) (i : Nat) (s : Sl) (ds : List PyData) (h : env.at i = some s) (hm : s.m = some (.l ds)) :
    ∃ p vs, σ[i]? = some (some (.ref p)) ∧ F p = none ∧ H p = some (.lst vs) ∧ DqAll K F vs ds ∧ (isB s = false → G.H0 p = none) ∧ (isB s = true → G.B i p) := by
  obtain ⟨p, u, a, f, hp, q, b1, b2⟩ := R.mug i s _ h hm
  obtain ⟨vs, rfl, q⟩ := q.lst
  exact ⟨p, vs, a, f, hp, q, b1, b2⟩
theorem Rel.muD {K : PySem.W.Frag} {G : Gh} {σ : L2.St} {H F : Hp} {env : En} (R : Rel K G σ H F env) (i : Nat) (s : Sl) (ds : List (PyData × PyData)) (h : env.at i = some s) (hm : s.m = some (.d ds)) :
    ∃ p vs, σ[i]? = some (some (.ref p)) ∧ F p = none ∧ H p = some (.dK vs) ∧ DqKV K F vs ds ∧ (isB s = false → G.H0 p = none) ∧ (isB s = true → G.B i p) := by
  obtain ⟨p, u, a, f, hp, q, b1, b2⟩ := R.mug i s _ h hm
  obtain ⟨vs, rfl, q⟩ := q.dct
  exact ⟨p, vs, a, f, hp, q, b1, b2⟩
structure Ext (K : PySem.W.Frag) (σ : L2.St) (env : En) (H F H' F' : Hp) (env' : En) : Prop where
  mono : Same F F'
  keep : ∀ b o, H b = some o → NT o → ¬ Own σ env b → H' b = some o
  live : ∀ b, H b ≠ none → H' b ≠ none
  fresh : ∀ b, F' b ≠ none → F b ≠ none ∨ H b = none ∨ Own σ env b
  own : ∀ b, Own σ env' b → Own σ env b
  tabs : Tm K H H'
/-- a result -/
def RV (K : PySem.W.Frag) (H H' F' : Hp) (v : V) : Sl → Prop
  | .v d => Dq K F' v d
  | .o ds => ∃ p vs, v = .ref p ∧ H p = none ∧ F' p = none ∧ H' p = some (.lst vs) ∧ DqAll K F' vs ds
  | .b _ => False
  | .w kvs => ∃ p vs, v = .ref p ∧ H p = none ∧ F' p = none ∧ H' p = some (.dK vs) ∧ DqKV K F' vs kvs
theorem Ext.refl {σ : L2.St} {env : En} {H F : Hp} : Ext K σ env H F H F env :=
  ⟨Same.refl _, fun _ _ h _ _ => h, fun _ h => h, fun _ h => .inl h, fun _ h => h, Tm.refl _⟩
theorem Ext.trans {σ : L2.St} {env env1 env2 : En} {H F H1 F1 H2 F2 : Hp} (a : Ext K σ env H F H1 F1 env1) (b : Ext K σ env1 H1 F1 H2 F2 env2) : Ext K σ env H F H2 F2 env2 := by
  refine ⟨a.mono.trans b.mono, fun c o h t n => b.keep c o (a.keep c o h t n) t fun z => n (a.own c z), fun c h => b.live c (a.live c h), fun c h => ?_, fun c h => a.own c (b.own c h), a.tabs.trans b.tabs⟩
  rcases b.fresh c h with z | z | z
  · exact a.fresh c z
  · refine .inr (.inl ?_)
    cases e : H c with
    | none => rfl
    | some o => exact absurd z (a.live c (by rw [e]; simp))
  · exact .inr (.inr (a.own c z))
variable {G : Gh} {σ : L2.St} {H F H' F' : Hp} {env env' : En}
theorem Rel.ownAt (R : Rel K G σ H F env) {p : Addr} (h : Own σ env p) : H p ≠ none ∧ F p = none := by
  obtain ⟨i, s, ds, e, m, g⟩ := h
  obtain ⟨q, vs, g', f, h, _⟩ := R.mug i s ds e m
  rw [g] at g'
  cases g'
  exact ⟨by rw [h]; simp, f⟩
/-- new things, nothing else changed but tables -/
theorem Rel.growT (R : Rel K G σ H F env) (m : Same F F') (sub : Same F' H') (hh : ∀ b o, H b = some o → NT o → H' b = some o) (lv : ∀ b, H b ≠ none → H' b ≠ none) (fr : ∀ b, F' b ≠ none → F b ≠ none ∨ H b = none) (tm : Tm K H H') : Rel K G σ H' F' env ∧ Ext K σ env H F H' F' env := by
  refine ⟨⟨R.len, sub, R.base.trans m, fun b o h t n => hh b o (R.fro b o h t n) t, fun b h => lv b (R.live b h), fun b h => ?_, fun i d h => ?_, fun i s ds h hm => ?_, R.apart, R.tabs.trans tm, R.ent.tm tm⟩, m, fun b o h t _ => hh b o h t, lv, fun b h => ?_, fun _ h => h, tm⟩
  · rcases fr b h with z | z
    · exact R.new b z
    · refine .inr ?_
      cases e : G.H0 b with
      | none => rfl
      | some o => exact absurd z (R.live b (by rw [e]; simp))
  · obtain ⟨v, a, q⟩ := R.val i d h
    exact ⟨v, a, dpMono m d q⟩
  · obtain ⟨p, vs, a, f, hp, q, b1, b2⟩ := R.mug i s ds h hm
    refine ⟨p, vs, a, ?_, hh p _ hp q.nt, q.mono m, b1, b2⟩
    cases e : F' p with
    | none => rfl
    | some o =>
      rcases fr p (by rw [e]; simp) with z | z
      · exact absurd f z
      · rw [hp] at z
        cases z
  · rcases fr b h with z | z
    · exact .inl z
    · exact .inr (.inl z)
/-- new things, nothing else changed -/
theorem Rel.grow (R : Rel K G σ H F env) (m : Same F F') (sub : Same F' H') (hh : Same H H') (nf : NFS H H') (fr : ∀ b, F' b ≠ none → F b ≠ none ∨ H b = none) : Rel K G σ H' F' env ∧ Ext K σ env H F H' F' env :=
  R.growT m sub (fun b o h _ => hh b o h) (fun b h => by
    cases e : H b with
    | none => exact absurd e h
    | some o =>
      rw [hh b o e]
      simp) fr (Tm.same hh nf)
theorem same_updF {p : Addr} {o : HO} (m : Same F H) (h : H p = some o) : Same (upd F p o) H := fun b u e => by
  by_cases hb : b = p
  · subst hb
    rw [upd_same] at e
    cases e
    exact h
  · rw [upd_ne hb] at e
    exact m b u e
theorem same_upd1 {p : Addr} {o : HO} (h : F p = none) : Same F (upd F p o) := fun b u e => by
  rw [upd_ne (ne_of_none e h)]
  exact e
/-- a new thing in hand is data from now on -/
theorem Rel.settleG (R0 : Rel K G σ H F env) (R : Rel K G σ H' F' env') (E : Ext K σ env H F H' F' env') {p : Addr} {u : HO} (hp : H p = none) (fp : F' p = none) (hp' : H' p = some u) :
    Rel K G σ H' (upd F' p u) env' ∧ Ext K σ env H F H' (upd F' p u) env' ∧ Same F' (upd F' p u) := by
  have m : Same F' (upd F' p u) := same_upd1 fp
  have nown : ¬ Own σ env' p := fun z => (R0.ownAt (E.own p z)).1 hp
  refine ⟨⟨R.len, same_updF R.sub hp', R.base.trans m, R.fro, R.live, fun b h => ?_, fun i d h => ?_, fun i s es h hm => ?_, R.apart, R.tabs, R.ent⟩, ⟨E.mono.trans m, E.keep, E.live, fun b h => ?_, E.own, E.tabs⟩, m⟩
  · by_cases hb : b = p
    · subst hb
      refine .inr ?_
      cases e : G.H0 b with
      | none => rfl
      | some o => exact absurd hp (R0.live b (by rw [e]; simp))
    · rw [upd_ne hb] at h
      exact R.new b h
  · obtain ⟨w, a, z⟩ := R.val i d h
    exact ⟨w, a, dpMono m d z⟩
  · obtain ⟨p2, ws, a, f, hw, z, b1, b2⟩ := R.mug i s es h hm
    refine ⟨p2, ws, a, ?_, hw, z.mono m, b1, b2⟩
    rw [upd_ne]
    · exact f
    · rintro rfl
      exact nown ⟨i, s, es, h, hm, a⟩
  · by_cases hb : b = p
    · subst hb
      exact .inr (.inl hp)
    · rw [upd_ne hb] at h
      exact E.fresh b h
theorem Rel.settle (R0 : Rel K G σ H F env) (R : Rel K G σ H' F' env') (E : Ext K σ env H F H' F' env') {v : V} {r : Sl} (q : RV K H H' F' v r) :
    ∃ F2, Rel K G σ H' F2 env' ∧ Ext K σ env H F H' F2 env' ∧ Dq K F2 v r.d := by
  cases r with
  | v d => exact ⟨F', R, E, q⟩
  | b ds => exact q.elim
  | o ds =>
    obtain ⟨p, vs, rfl, hp, fp, hp', dq⟩ := q
    obtain ⟨R2, E2, m⟩ := R0.settleG R E hp fp hp'
    exact ⟨_, R2, E2, .lst (.inl (.inl upd_same)) (dpAllMono m ds dq)⟩
  | w kvs =>
    obtain ⟨p, vs, rfl, hp, fp, hp', dq⟩ := q
    obtain ⟨R2, E2, m⟩ := R0.settleG R E hp fp hp'
    exact ⟨_, R2, E2, .dct (.inl upd_same) (dpKVMono m kvs dq)⟩
/-- a name's own thing is data from now on -/
theorem Rel.useG (R : Rel K G σ H F env) {i : Nat} {s0 : Sl} {c : Ob} {d : PyData} {p : Addr} {u : HO} (h : env.at i = some s0) (hm0 : s0.m = some c) (a : σ[i]? = some (some (.ref p))) (f : F p = none) (hp : H p = some u) (b1 : G.H0 p = none)
    (dq : Dq K (upd F p u) (.ref p) d) : Rel K G σ H (upd F p u) (env.set i (some (.v d))) ∧ Ext K σ env H F H (upd F p u) (env.set i (some (.v d))) := by
  have m : Same F (upd F p u) := same_upd1 f
  have hl := at_lt h
  have key : ∀ j s es, En.at (env.set i (some (.v d))) j = some s → s.m = some es → j ≠ i ∧ env.at j = some s := fun j s es e hm => by
    rw [at_set] at e
    by_cases hj : i = j
    · rw [if_pos ⟨hj, hl⟩] at e
      cases e
      cases hm
    · rw [if_neg fun z => hj z.1] at e
      exact ⟨fun z => hj z.symm, e⟩
  refine ⟨⟨by rw [List.length_set]; exact R.len, same_updF R.sub hp, R.base.trans m, R.fro, R.live, fun b hb => ?_, fun j d e => ?_, fun j s es e hm => ?_, fun j k q2 n z1 z2 => ?_, R.tabs, R.ent⟩, ⟨m, fun _ _ z _ _ => z, fun _ z => z, fun b hb => ?_, fun b z => ?_, Tm.refl _⟩⟩
  · by_cases hbp : b = p
    · subst hbp
      exact .inr b1
    · rw [upd_ne hbp] at hb
      exact R.new b hb
  · rw [at_set] at e
    by_cases hj : i = j
    · subst hj
      rw [if_pos ⟨rfl, hl⟩] at e
      cases e
      exact ⟨_, a, dq⟩
    · rw [if_neg fun z => hj z.1] at e
      obtain ⟨v, a2, q2⟩ := R.val j d e
      exact ⟨v, a2, dpMono m d q2⟩
  · obtain ⟨nj, e'⟩ := key j s es e hm
    obtain ⟨p2, ws, a2, f2, hw, z, c1, c2⟩ := R.mug j s es e' hm
    refine ⟨p2, ws, a2, ?_, hw, z.mono m, c1, c2⟩
    rw [upd_ne]
    · exact f2
    · rintro rfl
      exact R.apart j i p2 nj ⟨s, es, e', hm⟩ ⟨_, c, h, hm0⟩ a2 a
  · obtain ⟨s, es, e, hm⟩ := z1
    obtain ⟨s', es', e', hm'⟩ := z2
    exact R.apart j k q2 n ⟨s, es, (key j s es e hm).2, hm⟩ ⟨s', es', (key k s' es' e' hm').2, hm'⟩
  · by_cases hbp : b = p
    · subst hbp
      exact .inr (.inr ⟨i, _, c, h, hm0, a⟩)
    · rw [upd_ne hbp] at hb
      exact .inl hb
  · obtain ⟨j, s, es, e, hm, g⟩ := z
    exact ⟨j, s, es, (key j s es e hm).2, hm, g⟩
theorem Rel.useO (R : Rel K G σ H F env) {i : Nat} {ds : List PyData} (h : env.at i = some (.o ds)) :
    ∃ p vs, σ[i]? = some (some (.ref p)) ∧ Rel K G σ H (upd F p (.lst vs)) (env.set i (some (.v (.list ds)))) ∧ Ext K σ env H F H (upd F p (.lst vs)) (env.set i (some (.v (.list ds)))) ∧ Dq K (upd F p (.lst vs)) (.ref p) (.list ds) := by
  obtain ⟨p, vs, a, f, hp, q, b1, b2⟩ := R.mu i _ ds h rfl
  have dq : Dq K (upd F p (.lst vs)) (.ref p) (.list ds) := .lst (.inl (.inl upd_same)) (dpAllMono (same_upd1 f) ds q)
  obtain ⟨R2, E2⟩ := R.useG h rfl a f hp (b1 rfl) dq
  exact ⟨p, vs, a, R2, E2, dq⟩
theorem Rel.useM (R : Rel K G σ H F env) {i : Nat} {ds : List (PyData × PyData)} (h : env.at i = some (.w ds)) :
    ∃ p vs, σ[i]? = some (some (.ref p)) ∧ Rel K G σ H (upd F p (.dK vs)) (env.set i (some (.v (.dict ds)))) ∧ Ext K σ env H F H (upd F p (.dK vs)) (env.set i (some (.v (.dict ds)))) ∧ Dq K (upd F p (.dK vs)) (.ref p) (.dict ds) := by
  obtain ⟨p, vs, a, f, hp, q, b1, b2⟩ := R.muD i _ ds h rfl
  have dq : Dq K (upd F p (.dK vs)) (.ref p) (.dict ds) := .dct (.inl upd_same) (dpKVMono (same_upd1 f) ds q)
  obtain ⟨R2, E2⟩ := R.useG h rfl a f hp (b1 rfl) dq
  exact ⟨p, vs, a, R2, E2, dq⟩
/-- a name's own or lent list is changed -/
theorem Rel.changeG (R : Rel K G σ H F env) {i : Nat} {s s' : Sl} {ds ds' : Ob} {p : Addr} {ws : HO} (h : env.at i = some s) (hm : s.m = some ds) (a : σ[i]? = some (some (.ref p)))
    (hm' : s'.m = some ds') (hb : isB s' = isB s) (q : ObR K F ws ds') : Rel K G σ (upd H p ws) F (env.set i (some s')) ∧ Ext K σ env H F (upd H p ws) F (env.set i (some s')) := by
  obtain ⟨p2, vs2, a2, f, hp2, q2, b1, b2⟩ := R.mug i s ds h hm
  rw [a] at a2
  cases a2
  have hl := at_lt h
  have own0 : Own σ env p := ⟨i, s, ds, h, hm, a⟩
  have key : ∀ j t es, En.at (env.set i (some s')) j = some t → t.m = some es → (j = i ∧ t = s' ∧ es = ds') ∨ (j ≠ i ∧ env.at j = some t) := fun j t es e hm2 => by
    rw [at_set] at e
    by_cases hj : i = j
    · rw [if_pos ⟨hj, hl⟩] at e
      cases e
      rw [hm'] at hm2
      cases hm2
      exact .inl ⟨hj.symm, rfl, rfl⟩
    · rw [if_neg fun z => hj z.1] at e
      exact .inr ⟨fun z => hj z.symm, e⟩
  have was : ∀ j, (∃ t es, En.at (env.set i (some s')) j = some t ∧ t.m = some es) → ∃ t es, env.at j = some t ∧ t.m = some es := fun j ⟨t, es, e, hm2⟩ => by
    rcases key j t es e hm2 with ⟨rfl, _, _⟩ | ⟨_, e'⟩
    · exact ⟨s, ds, h, hm⟩
    · exact ⟨t, es, e', hm2⟩
  refine ⟨⟨by rw [List.length_set]; exact R.len, fun b o e => ?_, R.base, fun b o e nt n => ?_, fun b e => ?_, R.new, fun j d e => ?_, fun j t es e hm2 => ?_, fun j k q2 n z1 z2 => R.apart j k q2 n (was j z1) (was k z2), R.tabs.trans (Tm.upd (ObR.da hp2 q2) q.nl), R.ent.tm (Tm.upd (ObR.da hp2 q2) q.nl)⟩, ⟨Same.refl _, fun b o e nt n => ?_, fun b e => ?_, fun b e => .inl e, fun b z => ?_, Tm.upd (ObR.da hp2 q2) q.nl⟩⟩
  · rw [upd_ne (ne_of_none e f)]
    exact R.sub b o e
  · have hb2 : b ≠ p := by
      rintro rfl
      cases hs : isB s with
      | true => exact n i (b2 hs)
      | false =>
        rw [b1 hs] at e
        cases e
    rw [upd_ne hb2]
    exact R.fro b o e nt n
  · by_cases hbp : b = p
    · subst hbp
      rw [upd_same]
      simp
    · rw [upd_ne hbp]
      exact R.live b e
  · rw [at_set] at e
    by_cases hj : i = j
    · subst hj
      rw [if_pos ⟨rfl, hl⟩] at e
      cases e
      cases hm'
    · rw [if_neg fun z => hj z.1] at e
      exact R.val j d e
  · rcases key j t es e hm2 with ⟨rfl, rfl, rfl⟩ | ⟨nj, e'⟩
    · exact ⟨p, ws, a, f, upd_same, q, by rw [hb]; exact b1, by rw [hb]; exact b2⟩
    · obtain ⟨p3, vs3, a3, f3, hp3, q3, c1, c2⟩ := R.mug j t es e' hm2
      refine ⟨p3, vs3, a3, f3, ?_, q3, c1, c2⟩
      rw [upd_ne]
      · exact hp3
      · rintro rfl
        exact R.apart j i p3 nj ⟨t, es, e', hm2⟩ ⟨s, ds, h, hm⟩ a3 a
  · rw [upd_ne]
    · exact e
    · rintro rfl
      exact n own0
  · by_cases hbp : b = p
    · subst hbp
      rw [upd_same]
      simp
    · rw [upd_ne hbp]
      exact e
  · obtain ⟨j, t, es, e, hm2, g⟩ := z
    rcases key j t es e hm2 with ⟨rfl, rfl, rfl⟩ | ⟨nj, e'⟩
    · exact ⟨_, s, ds, h, hm, g⟩
    · exact ⟨j, t, es, e', hm2, g⟩
theorem Rel.change (R : Rel K G σ H F env) {i : Nat} {s s' : Sl} {ds ds' : List PyData} {p : Addr} {vs ws : List V} (h : env.at i = some s) (hm : s.m = some (.l ds)) (a : σ[i]? = some (some (.ref p))) (_hp : H p = some (.lst vs))
    (hm' : s'.m = some (.l ds')) (hb : isB s' = isB s) (q : DqAll K F ws ds') : Rel K G σ (upd H p (.lst ws)) F (env.set i (some s')) ∧ Ext K σ env H F (upd H p (.lst ws)) F (env.set i (some s')) :=
  R.changeG h hm a hm' hb q
theorem put_inv {i : Nat} {s : Sl} (h : env.put i s = some env') : env' = env.set i (some s) ∧ ∀ ds, env.at i ≠ some (.b ds) := by
  unfold En.put at h
  split at h
  · cases h
  · rename_i hn
    exact ⟨(Option.some.inj h).symm, fun ds e => hn ds e⟩
/-- a name holds data -/
theorem Rel.setv (R : Rel K G σ H F env) {i : Nat} {d : PyData} {v : V} (h : env.put i (.v d) = some env') (q : Dq K F v d) : Rel K G (σ.set i (some v)) H F env' := by
  obtain ⟨rfl, _⟩ := put_inv h
  have key : ∀ j t es, En.at (env.set i (some (.v d))) j = some t → t.m = some es → (j = i → ¬ i < env.length) ∧ env.at j = some t := fun j t es e hm2 => by
    rw [at_set] at e
    by_cases hj : i = j ∧ i < env.length
    · rw [if_pos hj] at e
      cases e
      cases hm2
    · rw [if_neg hj] at e
      exact ⟨fun z l => hj ⟨z.symm, l⟩, e⟩
  have look : ∀ j t es, En.at (env.set i (some (.v d))) j = some t → t.m = some es → (σ.set i (some v))[j]? = σ[j]? := fun j t es e hm2 => by
    obtain ⟨n, e'⟩ := key j t es e hm2
    rw [st_get, if_neg]
    intro z
    exact n z.symm (by rw [z]; exact at_lt e')
  refine ⟨by rw [List.length_set, List.length_set]; exact R.len, R.sub, R.base, R.fro, R.live, R.new, fun j d' e => ?_, fun j t es e hm2 => ?_, fun j k q2 n z1 z2 => ?_, R.tabs, R.ent⟩
  · rw [at_set] at e
    by_cases hj : i = j ∧ i < env.length
    · rw [if_pos hj] at e
      cases e
      refine ⟨v, ?_, q⟩
      rw [st_get, if_pos hj.1, if_pos (by rw [← R.len]; exact hj.2)]
    · rw [if_neg hj] at e
      obtain ⟨w, a, z⟩ := R.val j d' e
      refine ⟨w, ?_, z⟩
      rw [st_get, if_neg fun y => hj ⟨y, by rw [y]; exact at_lt e⟩]
      exact a
  · rw [look j t es e hm2]
    exact R.mug j t es (key j t es e hm2).2 hm2
  · obtain ⟨t1, es1, e1, m1⟩ := z1
    obtain ⟨t2, es2, e2, m2⟩ := z2
    rw [look j t1 es1 e1 m1, look k t2 es2 e2 m2]
    exact R.apart j k q2 n ⟨t1, es1, (key j t1 es1 e1 m1).2, m1⟩ ⟨t2, es2, (key k t2 es2 e2 m2).2, m2⟩
/-- a name takes a list in hand as its own -/
theorem Rel.setoG (R : Rel K G σ H F env) {i : Nat} {s0 : Sl} {ds : Ob} {p : Addr} {vs : HO} (hs0 : s0.m = some ds) (hb0 : isB s0 = false) (h : env.put i s0 = some env') (g0 : G.H0 p = none) (f : F p = none) (hp : H p = some vs) (q : ObR K F vs ds)
    (no : ¬ Own σ env p) : Rel K G (σ.set i (some (.ref p))) H F env' := by
  obtain ⟨rfl, _⟩ := put_inv h
  have key : ∀ j t es, En.at (env.set i (some s0)) j = some t → t.m = some es → (j = i ∧ i < env.length ∧ t = s0 ∧ es = ds) ∨ ((j = i → ¬ i < env.length) ∧ env.at j = some t) := fun j t es e hm2 => by
    rw [at_set] at e
    by_cases hj : i = j ∧ i < env.length
    · rw [if_pos hj] at e
      cases e
      rw [hs0] at hm2
      cases hm2
      exact .inl ⟨hj.1.symm, hj.2, rfl, rfl⟩
    · rw [if_neg hj] at e
      exact .inr ⟨fun z l => hj ⟨z.symm, l⟩, e⟩
  have look : ∀ j t, (j = i → ¬ i < env.length) → env.at j = some t → (σ.set i (some (V.ref p)))[j]? = σ[j]? := fun j t n e' => by
    rw [st_get, if_neg]
    intro z
    exact n z.symm (by rw [z]; exact at_lt e')
  refine ⟨by rw [List.length_set, List.length_set]; exact R.len, R.sub, R.base, R.fro, R.live, R.new, fun j d' e => ?_, fun j t es e hm2 => ?_, fun j k q2 n z1 z2 g1 g2 => ?_, R.tabs, R.ent⟩
  · rw [at_set] at e
    by_cases hj : i = j ∧ i < env.length
    · rw [if_pos hj] at e
      cases e
      cases hs0
    · rw [if_neg hj] at e
      obtain ⟨w, a, z⟩ := R.val j d' e
      refine ⟨w, ?_, z⟩
      rw [st_get, if_neg fun y => hj ⟨y, by rw [y]; exact at_lt e⟩]
      exact a
  · rcases key j t es e hm2 with ⟨rfl, hl, rfl, rfl⟩ | ⟨n, e'⟩
    · refine ⟨p, vs, ?_, f, hp, q, fun _ => g0, fun z => by rw [hb0] at z; cases z⟩
      rw [st_get, if_pos rfl, if_pos (by rw [← R.len]; exact hl)]
    · rw [look j t n e']
      exact R.mug j t es e' hm2
  · obtain ⟨t1, es1, e1, m1⟩ := z1
    obtain ⟨t2, es2, e2, m2⟩ := z2
    rcases key j t1 es1 e1 m1 with ⟨rfl, l1, _, _⟩ | ⟨n1, e1'⟩
    · rcases key k t2 es2 e2 m2 with ⟨rfl, _, _, _⟩ | ⟨n2, e2'⟩
      · exact n rfl
      · rw [look k t2 n2 e2'] at g2
        rw [st_get, if_pos rfl, if_pos (by rw [← R.len]; exact l1)] at g1
        cases g1
        exact no ⟨k, t2, es2, e2', m2, g2⟩
    · rw [look j t1 n1 e1'] at g1
      rcases key k t2 es2 e2 m2 with ⟨rfl, l2, _, _⟩ | ⟨n2, e2'⟩
      · rw [st_get, if_pos rfl, if_pos (by rw [← R.len]; exact l2)] at g2
        cases g2
        exact no ⟨j, t1, es1, e1', m1, g1⟩
      · rw [look k t2 n2 e2'] at g2
        exact R.apart j k q2 n ⟨t1, es1, e1', m1⟩ ⟨t2, es2, e2', m2⟩ g1 g2
theorem Rel.seto (R : Rel K G σ H F env) {i : Nat} {ds : List PyData} {p : Addr} {vs : List V} (h : env.put i (.o ds) = some env') (g0 : G.H0 p = none) (f : F p = none) (hp : H p = some (.lst vs)) (q : DqAll K F vs ds)
    (no : ¬ Own σ env p) : Rel K G (σ.set i (some (.ref p))) H F env' := R.setoG (ds := .l ds) rfl rfl h g0 f hp q no
theorem Rel.setm (R : Rel K G σ H F env) {i : Nat} {ds : List (PyData × PyData)} {p : Addr} {vs : List (L2.Key × V)} (h : env.put i (.w ds) = some env') (g0 : G.H0 p = none) (f : F p = none) (hp : H p = some (.dK vs)) (q : DqKV K F vs ds)
    (no : ¬ Own σ env p) : Rel K G (σ.set i (some (.ref p))) H F env' := R.setoG (ds := .d ds) rfl rfl h g0 f hp q no
end
end PF

set_option maxHeartbeats 4000000
/-! PFM: lists and tuples repeated. -/
namespace PF
open PySem PySem.Spec PyProof.Rows L2
theorem log_rg {k : Int} {m : Nat} (hm : m ≤ 62) (h : k.natAbs.log2 < m) : -(2 ^ 63) ≤ k ∧ k < 2 ^ 63 := by
  have h1 : k.natAbs < 2 ^ 62 := by
    by_cases z : k.natAbs = 0
    · rw [z]; decide
    · exact (Nat.log2_lt z).mp (Nat.lt_of_lt_of_le h hm)
  omega
theorem log_rg2 {k : Int} (h : k.natAbs.log2 < 61) : -(2 ^ 62) ≤ k ∧ k < 2 ^ 62 := by
  have h1 : k.natAbs < 2 ^ 61 := by
    by_cases z : k.natAbs = 0
    · rw [z]; decide
    · exact (Nat.log2_lt z).mp h
  omega
theorem log_of {k : Int} (h1 : -1000000000000 ≤ k) (h2 : k ≤ 1000000000000) : k.natAbs.log2 < 61 := by
  by_cases z : k.natAbs = 0
  · rw [z]; decide
  · exact (Nat.log2_lt z).mpr (by omega)
theorem tupMulOne (l : Addr) (items : Array Value) (n : Nat) (u : Tok) (k : Int) (dd : Option Addr) (sl : Array (Option Value)) (c0 : (decide (k < -(2 ^ 63)) || decide (k ≥ 2 ^ 63)) = false) (c1 : (items.isEmpty || k == 1) = true) :
    Meets (Builtin.«tuple.__mul__» ⟨[.ref l, .int k u], []⟩) (fun _ R s => s.heap.get? l = some { cls := .type "tuple", dict := dd, data := .seq items n, slots := sl } ∧ R (.ok (.ret (Value.ref l))) s) :=
  .of_wp fun prog w A R s h => by
    obtain ⟨hp, g, d, tk, os⟩ := s
    obtain ⟨hl, h⟩ := h
    have f1 := AutoSeq1.idx_int
    wp_walk using wpAny_loadPart' hl
    repeat (first
      | (refine wpAny_ite_false (decide_eq_false (by rw [c0]; exact Bool.false_ne_true)) ?_
         wp_walk using wpAny_loadPart' hl)
      | (refine wpAny_ite_true (decide_eq_true c1) ?_
         wp_walk using wpAny_loadPart' hl))
    exact ⟨_, rfl, h⟩
theorem tupMulNone (l : Addr) (items : Array Value) (n : Nat) (u : Tok) (k : Int) (dd : Option Addr) (sl : Array (Option Value)) (c0 : (decide (k < -(2 ^ 63)) || decide (k ≥ 2 ^ 63)) = false) (c1 : (items.isEmpty || k == 1) = false) (c2 : (decide (k ≤ 0) || items.isEmpty) = true) :
    Meets (Builtin.«tuple.__mul__» ⟨[.ref l, .int k u], []⟩) (fun _ R s => s.heap.get? l = some { cls := .type "tuple", dict := dd, data := .seq items n, slots := sl } ∧
      R (.ok (.ret (Value.ref s.heap.objs.size))) { s with heap := s.heap.push { cls := Value.type "tuple", data := Data.seq #[] }, toks := s.toks }) :=
  .of_wp fun prog w A R s h => by
    obtain ⟨hp, g, d, tk, os⟩ := s
    obtain ⟨hl, h⟩ := h
    have f1 := AutoSeq1.idx_int
    wp_walk using wpAny_loadPart' hl
    repeat (first
      | (refine wpAny_ite_false (decide_eq_false (by rw [c0]; exact Bool.false_ne_true)) ?_
         wp_walk using wpAny_loadPart' hl)
      | (refine wpAny_ite_false (decide_eq_false (by rw [c1]; exact Bool.false_ne_true)) ?_
         wp_walk using wpAny_loadPart' hl)
      | (refine wpAny_ite_true (decide_eq_true c2) ?_
         wp_walk using wpAny_loadPart' hl))
    exact ⟨_, rfl, h⟩
/-- t * k, once or not at all -/
def rRepS (K : PySem.W.Frag) : R2 := fun x y H Q => ∃ l k xs, x = .ref l ∧ y = .int k ∧ SqT K H l xs ∧ -(2 ^ 63) ≤ k ∧ k < 2 ^ 63 ∧ (xs = [] ∨ k ≤ 1) ∧ (xs = [] ∨ k = 1 → Q (.ref l) H) ∧ (¬ (xs = [] ∨ k = 1) → ∀ p, H p = none → Q (.ref p) (upd H p (.tup [])))
/-- xs * k -/
def rRepR (K : PySem.W.Frag) : R2 := fun x y H Q => ∃ l k xs, x = .ref l ∧ y = .int k ∧ RdL K H l xs ∧ -(2 ^ 63) ≤ k ∧ k < 2 ^ 63 ∧ xs.length * k.toNat ≤ sizeLine ∧ ∀ p, H p = none → Q (.ref p) (upd H p (.lst (List.replicate k.toNat xs).flatten))
theorem dpAll_rep {K : PySem.W.Frag} {H : Hp} {vs : List V} {ds : List PyData} (h : DqAll K H vs ds) : ∀ n : Nat, DqAll K H (List.replicate n vs).flatten (List.replicate n ds).flatten
  | 0 => .nil
  | n + 1 => by
    rw [List.replicate_succ, List.replicate_succ, List.flatten_cons, List.flatten_cons]
    exact dpAll_app h (dpAll_rep h n)
section
variable {X : Cx} {pins : List (Addr × Obj)} {σ : L2.St} {H F : Hp} {s : Shared}
theorem Inv.rdL (I : Inv X pins σ H s) {l : Addr} {xs : List V} (h : RdL X.K H l xs) : xs.length ≤ sizeLine ∧ ∃ (its : List Value) (n : Nat), Vals xs its ∧ xs.length = its.length ∧ s.heap.get? l = some { cls := .type "list", data := .seq its.toArray n } := by
  rcases h with h | ⟨its, n, h, r, z⟩
  · obtain ⟨z, its, n, r, e⟩ := h.ok I.hok
    exact ⟨z, its, n, r, r.length, e⟩
  · exact ⟨z, its, n, r, r.length, I.kIn _ _ h⟩
end
section
variable {X : Cx}
theorem op_fdivM : OpR X (binaryOp .FloorDiv) (rI (fun _ j => j ≠ 0 ∧ j.natAbs.log2 < 9000) fun i j => .int (i.fdiv j)) := opI fun _ _ _ _ _ _ _ hc q => floordiv_int hc.1 q (.inl (PyProof.noPylong_of_log2 hc.2))
theorem op_repS : OpR X (binaryOp .Mult) (rRepS X.K) := by
  intro pins s σ H x y v u Q I r1 r2 h
  obtain ⟨l, k, xs, rfl, rfl, hT, h1, h2, h3, q1, q2⟩ := h
  cases r1
  obtain ⟨t, rfl⟩ := r2
  obtain ⟨its, r, ⟨⟨cls, dd, data, sl⟩, ho, hc, n, hd⟩, hs⟩ := I.tuple hT
  simp only at hc hd
  subst hc hd
  have hle : its.length = xs.length := r.length.symm
  have c0 : (decide (k < -(2 ^ 63)) || decide (k ≥ 2 ^ 63)) = false := by
    rw [decide_eq_false (by omega), decide_eq_false (by omega)] <;> rfl
  have he : its.toArray.isEmpty = decide (xs = []) := by
    cases xs with
    | nil => rw [List.eq_nil_of_length_eq_zero (hle.trans rfl)]; rfl
    | cons a b =>
      cases its with
      | nil => cases hle
      | cons c d => rfl
  by_cases hx : xs = [] ∨ k = 1
  · have c1 : (its.toArray.isEmpty || k == 1) = true := by
      rw [he]
      rcases hx with z | z
      · rw [decide_eq_true z]
        rfl
      · rw [z, beq_self_eq_true, Bool.or_true]
    refine wpAny_binaryOp_repeat_ref (T := "tuple") (U := "int") (by decide) ⟨_, ho, rfl⟩ (fun s' => typeIs_int s' k t) noFill_tuple_mul F.fills_int_mul F.slot_int_rmul repeat_tuple F.slot_int_index.lookup
      (call_meets F.slot_int_rmul (typeIs_int s k t) F.entry_int_rmul (F.args_int_rmul_2 _ _) (int_rmul_tuple k t l its.toArray n dd sl)
        ⟨ho, rfl, ⟨_, ho, rfl⟩, call_meets F.slot_tuple_mul ⟨_, ho, rfl⟩ F.entry_tuple_mul (F.args_tuple_mul_2 _ _) (tupMulOne l its.toArray n t k dd sl c0 c1) ⟨ho, ?_⟩⟩)
    exact ⟨.ref l, H, I, rfl, q1 hx⟩
  · have c1 : (its.toArray.isEmpty || k == 1) = false := by
      rw [he, decide_eq_false fun z => hx (.inl z)]
      exact beq_eq_false_iff_ne.mpr fun z => hx (.inr z)
    have c2 : (decide (k ≤ 0) || its.toArray.isEmpty) = true := by
      have : k ≤ 0 := by
        have : k ≠ 1 := fun z => hx (.inr z)
        rcases h3 with z | z
        · exact absurd (.inl z) hx
        · omega
      rw [decide_eq_true this]
      rfl
    refine wpAny_binaryOp_repeat_ref (T := "tuple") (U := "int") (by decide) ⟨_, ho, rfl⟩ (fun s' => typeIs_int s' k t) noFill_tuple_mul F.fills_int_mul F.slot_int_rmul repeat_tuple F.slot_int_index.lookup
      (call_meets F.slot_int_rmul (typeIs_int s k t) F.entry_int_rmul (F.args_int_rmul_2 _ _) (int_rmul_tuple k t l its.toArray n dd sl)
        ⟨ho, rfl, ⟨_, ho, rfl⟩, call_meets F.slot_tuple_mul ⟨_, ho, rfl⟩ F.entry_tuple_mul (F.args_tuple_mul_2 _ _) (tupMulNone l its.toArray n t k dd sl c0 c1 c2) ⟨ho, ?_⟩⟩)
    refine ⟨.ref s.heap.objs.size, _, I.laid (t' := s.toks) (o := .tup []) (fun b ob q => Heap.get?_push_of_some _ q) (Nat.le_refl _) ?_, rfl, q2 hx _ (I.hok.fresh (Nat.le_refl _))⟩
    exact ⟨Nat.zero_le _, _, .nil, IsTup.new _ _⟩
theorem op_repR : OpR X (binaryOp .Mult) (rRepR X.K) := by
  intro pins s σ H x y v u Q I r1 r2 h
  obtain ⟨l, k, xs, rfl, rfl, hH, h1, h2, hz, q⟩ := h
  cases r1
  obtain ⟨t, rfl⟩ := r2
  obtain ⟨z, its, n, r, hl, e⟩ := Inv.rdL I hH
  have hlen : its.toArray.size * k.toNat ≤ sizeLine := by rw [List.size_toArray, ← hl]; exact hz
  have hcap : ¬ its.toArray.size * k.toNat > (2 ^ 63 - 1) / 8 := by
    have : (sizeLine : Nat) ≤ (2 ^ 63 - 1) / 8 := by decide
    omega
  have hfit : ¬ (!Builtin.List.listFitsIndex k) = true := by
    rw [fitsIndex_both h1 h2]
    exact Bool.false_ne_true
  have hlong : ¬ Builtin.List.listTooLong (its.toArray.size * k.toNat) = true := by
    rw [notLongL hlen]
    exact Bool.false_ne_true
  have hnew : List.foldl (fun x1 x2 => x1 ++ x2) #[] (List.replicate (if its.toArray.isEmpty = true then 0 else k.toNat) its.toArray) = (List.replicate k.toNat its).flatten.toArray := by
    rw [size_rep]
    cases its with
    | nil => simp
    | cons a r' => rw [if_neg (by simp)]
  refine wpAny_binaryOp_repeat_ref (T := "list") (U := "int") (by decide) ⟨_, e, rfl⟩ (fun s' => typeIs_int s' k t) noFill_list_mul F.fills_int_mul F.slot_int_rmul repeat_list F.slot_int_index.lookup
    (call_meets F.slot_int_rmul (typeIs_int s k t) F.entry_int_rmul (F.args_int_rmul_2 _ _) (int___rmul___int_list k t l its.toArray n)
      ⟨e, rfl, ⟨_, e, rfl⟩, call_meets F.slot_list_mul ⟨_, e, rfl⟩ F.entry_list_mul (F.args_list_mul_2 _ _) (AutoListH.list___mul___list_int_3 l its.toArray n k t hfit hcap hlong) ⟨e, ?_⟩⟩)
  rw [hnew]
  exact ⟨.ref _, _, Inv.lnew (t' := s.toks) I (r.rep k.toNat) (by rw [PyProof.Rows.lm_len_rep_flat, Nat.mul_comm]; exact hz), rfl, q _ (Inv.fresh I)⟩
/-- a tuple repeated, a million items at most -/
def rRepU (K : PySem.W.Frag) : R2 := fun x y H Q => ∃ l k xs, x = .ref l ∧ y = .int k ∧ SqT K H l xs ∧ xs ≠ [] ∧ 2 ≤ k ∧ xs.length * k.toNat ≤ 1000000 ∧ ∀ p, H p = none → Q (.ref p) (upd H p (.tup (List.replicate k.toNat xs).flatten))
theorem op_repU : OpR X (binaryOp .Mult) (rRepU X.K) := by
  intro pins s σ H x y v u Q I r1 r2 h
  obtain ⟨l, k, xs, rfl, rfl, hT, ne, k2, big, q⟩ := h
  cases r1
  obtain ⟨t, rfl⟩ := r2
  obtain ⟨its, rv, ⟨⟨cls, dd, data, sl⟩, ob, oc, n, od⟩, lim⟩ := I.tuple hT
  simp only at oc od
  subst oc od
  have le : its.length = xs.length := rv.length.symm
  have ln0 : 1 ≤ xs.length := List.length_pos_iff.mpr ne
  have kn : k.toNat ≤ 1000000 := Nat.le_trans (Nat.le_mul_of_pos_left _ ln0) big
  have sz : its.toArray.size = xs.length := by rw [List.size_toArray, le]
  have emp : its.toArray.isEmpty = false := by
    cases its with
    | nil => rw [← le] at ln0; simp at ln0
    | cons c d => rfl
  have prod : ((its.toArray.size : Nat) : Int) * k = ((xs.length * k.toNat : Nat) : Int) := by
    rw [sz, Int.natCast_mul, Int.toNat_of_nonneg (by omega)]
  have all : (List.replicate k.toNat its).flatten.length = xs.length * k.toNat := by
    rw [PyProof.Rows.lm_len_rep_flat, le, Nat.mul_comm]
  have b0 : (decide (k < -(2 ^ 63)) || decide (k ≥ 2 ^ 63)) = false := by
    rw [decide_eq_false (show ¬ k < -(2 ^ 63) by omega), decide_eq_false (show ¬ k ≥ 2 ^ 63 by omega)]
    rfl
  have b1 : (its.toArray.isEmpty || k == 1) = false := by rw [emp, Bool.false_or]; exact beq_eq_false_iff_ne.mpr (by omega)
  have b2 : (decide (k ≤ 0) || its.toArray.isEmpty) = false := by rw [emp, Bool.or_false]; exact decide_eq_false (by omega)
  have b3 : ¬ ((its.toArray.size : Nat) : Int) * k > (2 ^ 63 - 1) / 8 := by rw [prod]; omega
  have b4 : Builtin.Tuple.tupleTooMany (((its.toArray.size : Nat) : Int) * k) = false := by
    rw [prod]
    unfold Builtin.Tuple.tupleTooMany
    rw [sizeLine_eq]
    exact decide_eq_false (show ¬ _ by omega)
  have b5 : (List.foldl (fun x1 x2 => x1 ++ x2) #[] (List.replicate k.toNat its.toArray)).size ≤ sizeLine := by
    rw [size_rep, List.size_toArray, all, sizeLine_eq]
    omega
  have go := tuple_mulW l its.toArray n dd sl k t b0 b1 b2 b3 b4 b5
  refine wpAny_binaryOp_repeat_ref (T := "tuple") (U := "int") (by decide) ⟨_, ob, rfl⟩ (fun s' => typeIs_int s' k t) noFill_tuple_mul F.fills_int_mul F.slot_int_rmul repeat_tuple F.slot_int_index.lookup
    (call_meets F.slot_int_rmul (typeIs_int s k t) F.entry_int_rmul (F.args_int_rmul_2 _ _) (int_rmul_tuple k t l its.toArray n dd sl) ⟨ob, rfl, ⟨_, ob, rfl⟩, call_meets F.slot_tuple_mul ⟨_, ob, rfl⟩ F.entry_tuple_mul (F.args_tuple_mul_2 _ _) go ⟨ob, ?_⟩⟩)
  rw [size_rep]
  have new : ObjOk X.prog X.w (upd H s.heap.objs.size (.tup (List.replicate k.toNat xs).flatten)) (s.heap.push { cls := Value.type "tuple", data := Data.seq (List.replicate k.toNat its).flatten.toArray }) s.heap.objs.size (.tup (List.replicate k.toNat xs).flatten) :=
    ⟨by rw [PyProof.Rows.lm_len_rep_flat, Nat.mul_comm, sizeLine_eq]; omega, _, rv.rep k.toNat, IsTup.new _ _⟩
  exact ⟨.ref s.heap.objs.size, _, I.laid (t' := s.toks) (o := .tup (List.replicate k.toNat xs).flatten) (fun b ob q => Heap.get?_push_of_some _ q) (Nat.le_refl _) new, rfl, q _ (I.hok.fresh (Nat.le_refl _))⟩
end
end PF

/-! PFS: sorted(xs), xs a list of tuples of ints of any lengths. -/
namespace PF
open PySem PySem.Spec PyProof.Rows L2
theorem lexI_asym : ∀ a b : List Int, lexI a b = true → lexI b a = false
  | [], [], h => by cases h
  | [], _ :: _, _ => rfl
  | _ :: _, [], h => by cases h
  | a :: r, b :: s, h => by
    unfold lexI at h ⊢
    by_cases e : a = b
    · rw [if_pos e] at h
      rw [if_pos e.symm]
      exact lexI_asym r s h
    · rw [if_neg e] at h
      rw [if_neg fun z => e z.symm]
      have := of_decide_eq_true h
      exact decide_eq_false (by omega)
theorem lexI_tr : ∀ x y z : List Int, lexI y x = false → lexI z y = false → lexI z x = false
  | [], _, [], _, _ => rfl
  | [], [], _ :: _, _, _ => rfl
  | [], _ :: _, _ :: _, _, _ => rfl
  | _ :: _, [], _, h, _ => by cases h
  | _ :: _, _ :: _, [], _, h => by cases h
  | a :: r, b :: s, c :: t, h, h' => by
    unfold lexI at h h' ⊢
    by_cases e : b = a
    · rw [if_pos e] at h
      subst e
      by_cases e2 : c = b
      · rw [if_pos e2] at h' ⊢
        exact lexI_tr r s t h h'
      · rw [if_neg e2] at h' ⊢
        exact h'
    · rw [if_neg e] at h
      have h1 := of_decide_eq_false h
      by_cases e2 : c = b
      · subst e2
        rw [if_neg e]
        exact h
      · rw [if_neg e2] at h'
        have h2 := of_decide_eq_false h'
        rw [if_neg (by omega)]
        exact decide_eq_false (by omega)
theorem lexI_tot : ∀ a b : List Int, lexI a b = false → lexI b a = false → a = b
  | [], [], _, _ => rfl
  | [], _ :: _, h, _ => by cases h
  | _ :: _, [], _, h => by cases h
  | a :: r, b :: s, h, h' => by
    unfold lexI at h h'
    by_cases e : a = b
    · rw [if_pos e] at h
      rw [if_pos e.symm] at h'
      rw [e, lexI_tot r s h h']
    · rw [if_neg e] at h
      rw [if_neg fun z => e z.symm] at h'
      have h1 := of_decide_eq_false h
      have h2 := of_decide_eq_false h'
      omega
section
variable {prog : Program} {w : World} {A : Around} {E : Value → Shared → Prop} {s : Shared} {Q : Bool → Shared → Prop}
theorem lexI_kat {b : Bool} {xs ys : List Value} {ns ms : List Int} {d : Bool} (i : Nat) (hx : IntsAre xs ns) (hy : IntsAre ys ms) (hd : d = decide (ns.length < ms.length))
    (h : Q (lexI ns ms) s) : PySem.W.KatLex prog w A b d Q (xs.zip ys) i s := by
  induction hx generalizing ys ms i with
  | nil =>
    cases hy with
    | nil =>
      rw [show d = false from hd]
      exact PySem.W.kat_nil h
    | cons q u hy =>
      rw [show d = true from hd.trans (decide_eq_true (by simp))]
      exact PySem.W.kat_nil h
  | @cons p t xs ns hx ih =>
    cases hy with
    | nil =>
      rw [show d = false from hd.trans (decide_eq_false (by simp))]
      exact PySem.W.kat_nil h
    | @cons q u ys ms hy =>
      show PySem.W.KatLex prog w A b d Q ((Value.int p t, Value.int q u) :: xs.zip ys) i s
      have hd' : d = decide (ns.length < ms.length) := by
        rw [hd]
        exact decide_eq_decide.mpr (by simp)
      refine PySem.W.kat_cons (wpAny_eqBool_int ?_)
      unfold lexI at h
      by_cases e : p = q
      · rw [if_pos e] at h
        subst e
        rw [beq_self_eq_true]
        refine PySem.W.kat_yes ?_
        first
          | exact ih (i + 1) hy hd' h
          | exact ih _ _ (i + 1) hy hd' h
      · rw [if_neg e] at h
        rw [show (p == q) = false from beq_eq_false_iff_ne.mpr e]
        exact PySem.W.kat_no (TS.oneLt_ints _ h)
theorem swoL (h : Heap) : SrtO.Swo fun v u => lexI (TS.intsOf h v) (TS.intsOf h u) := ⟨fun _ _ z => lexI_asym _ _ z, fun _ _ _ z z' => lexI_tr _ _ _ z z'⟩
theorem firstsL {h : Heap} : ∀ vs : List Value, (∀ v ∈ vs, ∃ ns, TS.TupInts h v ns ∧ ns ≠ []) → ∃ fs, PySem.W.KatTups h vs fs ∧ fs.length = vs.length ∧ ∀ f, f ∈ fs → ∃ n t, f = Value.int n t
  | [], _ => ⟨[], PySem.W.KatTups.nil, rfl, fun f hf => by simp at hf⟩
  | v :: vs, x => by
    obtain ⟨fs, k, hl, hi⟩ := firstsL vs fun u hu => x u (List.mem_cons_of_mem _ hu)
    obtain ⟨ns, ⟨a, xs, rfl, ⟨o, ho, hc, n, hdt⟩, i⟩, hn⟩ := x v (List.mem_cons_self ..)
    obtain ⟨y, ys, e⟩ : ∃ y ys, xs.toList = y :: ys := by
      cases q : xs.toList with
      | nil =>
        rw [q] at i
        cases i
        exact absurd rfl hn
      | cons y ys => exact ⟨y, ys, rfl⟩
    obtain ⟨m, t, hy⟩ := i.all y (by rw [e]; exact List.mem_cons_self ..)
    refine ⟨y :: fs, PySem.W.KatTups.cons ho hc hdt ?_ k, by simp [hl], ?_⟩
    · have z : xs.toList[0]? = some y := by rw [e]; rfl
      simpa using z
    · intro f hf
      rcases List.mem_cons.mp hf with rfl | hf
      · exact ⟨m, t, hy⟩
      · exact hi f hf
theorem cmpL {vs : List Value} {h0 : Heap} (hp : ∀ v ∈ vs, ∃ ns, TS.TupInts s.heap v ns ∧ TS.intsOf h0 v = ns) : SrtO.Cmp prog w A s (tuples' true) (fun p => p.1 ∈ vs) (SrtO.lt2 fun v u => lexI (TS.intsOf h0 v) (TS.intsOf h0 u)) := by
  intro p q hm hm'
  obtain ⟨ns, ⟨a, xs, e, ⟨o, ho, hc, n, hd⟩, i⟩, f1⟩ := hp _ hm
  obtain ⟨ms, ⟨a', xs', e', ⟨o', ho', hc', n', hd'⟩, i'⟩, f2⟩ := hp _ hm'
  show wpAny (model prog w) A (keyLt' (tuples' true) p.1 q.1) (fun r s' => s' = s ∧ r = lexI (TS.intsOf h0 p.1) (TS.intsOf h0 q.1)) (fun _ _ => False) s
  rw [f1, f2, e, e']
  refine PySem.W.kat_lt ho hd ho' hd' (lexI_kat 0 i i' ?_ ⟨rfl, rfl⟩)
  have l1 := i.length
  have l2 := i'.length
  rw [Array.length_toList] at l1 l2
  rw [l1, l2]
theorem sortableL {a : Addr} {vs : List Value} {h0 : Heap} (h2 : 0 < vs.length) (hp : ∀ v ∈ vs, ∃ ns, TS.TupInts s.heap v ns ∧ ns ≠ [] ∧ TS.intsOf h0 v = ns) (ha : ∀ o, s.heap.get? a = some o → o.cls ≠ .type "tuple") :
    SrtO.SortableO prog w A s a vs fun v u => lexI (TS.intsOf h0 v) (TS.intsOf h0 u) := by
  intro h' keep
  have hp' : ∀ v ∈ vs, ∃ ns, TS.TupInts h' v ns ∧ ns ≠ [] ∧ TS.intsOf h0 v = ns := fun v hm => by
    obtain ⟨ns, t, n, e⟩ := hp v hm
    exact ⟨ns, t.keeps fun b o e c => keep b o (fun z => by subst z; exact ha o e c) e, n, e⟩
  obtain ⟨fs, k, hl, hi⟩ := firstsL vs fun v hm => by
    obtain ⟨ns, t, n, _⟩ := hp' v hm
    exact ⟨ns, t, n⟩
  refine ⟨tuples' true, fun Q E hq => ?_, cmpL fun v hm => ?_⟩
  · refine PySem.W.kat_kind (T := .type "int") k (by omega) (fun f hm => ?_) (by rfl) ?_
    · obtain ⟨x, t, rfl⟩ := hi f hm
      exact PySem.W.Looks.now
    · have e : (Value.type "int" != Value.type "tuple") = true := by first | decide +kernel | rfl | decide
      rw [e]
      exact hq
  · obtain ⟨ns, t, _, e⟩ := hp' v hm
    exact ⟨ns, t, e⟩
end
/-- sorted(xs), xs a list of tuples of ints: a new list of the same, ascending -/
def rSortL (K : PySem.W.Frag) : List V → Hp → VK → Prop := fun vs H Q => ∃ (a : Addr) (xs : List V), vs = [V.ref a] ∧ SqL K H a xs ∧ (∀ x ∈ xs, ∃ ns, TupI K H x ns ∧ (2 ≤ xs.length → ns ≠ [])) ∧
  ∀ (ys : List V) (p : Addr), ys.Perm xs → ys.Pairwise (fun x y => ∀ n m, TupI K H x n → TupI K H y m → lexI m n = false) → H p = none → Q (.ref p) (upd H p (.lst ys))
section
variable {X : Cx}
theorem cr_sortL : CallR X (.builtin "sorted") (rSortL X.K) := by
  intro pins s σ H vs us Q I r h
  obtain ⟨a, xs, rfl, hs, hx, q⟩ := h
  obtain ⟨its, rv, hl, hz⟩ := I.list hs
  rw [Vals.ref1 r]
  have hlen := rv.length
  obtain ⟨e1, e2⟩ := bkV_refs rv fun x m => by
    obtain ⟨ns, ⟨t, e, _⟩, _⟩ := hx x m
    exact ⟨t, e⟩
  have hin : ∀ v ∈ its, ∃ ns, TS.TupInts s.heap v ns ∧ (2 ≤ xs.length → ns ≠ []) := fun v hv => by
    obtain ⟨t, rfl⟩ := e2 v hv
    have hm : V.ref t ∈ xs := by
      rw [e1]
      exact List.mem_map.mpr ⟨_, hv, rfl⟩
    obtain ⟨ns, ⟨t', e, ht⟩, hn⟩ := hx _ hm
    cases e
    exact ⟨ns, tupI_raw I ht, hn⟩
  refine SrtO.sorted_ord (swoL s.heap) hl.isList (by rw [← hlen]; exact hz) (fun h2 h₁ a' ha kk => ?_) fun out h1 h2 => ?_
  · refine sortableL (s := { s with heap := h₁ }) (by omega) (fun v hv => ?_) fun o e => ?_
    · obtain ⟨ns, t, n⟩ := hin v hv
      exact ⟨ns, t.keeps fun b o e _ => (kk b o e).2, n (by omega), t.ints⟩
    · have e' : some o = some (seqObj "list" its.toArray 0) := e.symm.trans ha
      cases e'
      intro c
      exact absurd (Value.type.inj c) (by decide)
  · obtain ⟨ep, he'⟩ := PyProof.Rows.sortedAll_at s.heap its out.toArray
    have h3 : ∀ u ∈ out, ∃ a, u = Value.ref a := fun u hu => e2 u (h2.perm.mem_iff.mp hu)
    have hp : (out.map bkV).Perm xs := by
      rw [e1]
      exact h2.perm.map bkV
    have hlen : (out.map bkV).length ≤ sizeLine := by
      rw [hp.length_eq]
      exact hz
    refine ⟨.ref _, upd H (s.heap.objs.size + 1) (.lst (out.map bkV)), I.laid (t' := s.toks) (fun _ _ => PyProof.Rows.sortedAll_old) (Nat.le_succ _) ⟨hlen, out, ep, bkV_vals h3, he'⟩, rfl, q _ _ hp ?_ (I.hok.fresh (Nat.le_succ _))⟩
    rw [List.pairwise_map]
    refine List.Pairwise.imp (fun {u v} huv n m hn hm => ?_) h1
    obtain ⟨t, et, ht⟩ := hn
    obtain ⟨t', et', ht'⟩ := hm
    have eu := bkV_ref et
    have ev := bkV_ref et'
    have i1 : TS.intsOf s.heap u = n := by
      rw [eu]
      exact (tupI_raw I ht).ints
    have i2 : TS.intsOf s.heap v = m := by
      rw [ev]
      exact (tupI_raw I ht').ints
    rw [← i1, ← i2]
    exact huv
end
/-! sorting by insertion -/
section
variable {α : Type} {lt : α → α → Bool}
theorem insS_perm (x : α) : ∀ l : List α, (insS lt x l).Perm (x :: l)
  | [] => List.Perm.refl _
  | y :: r => by
    unfold insS
    split
    · exact ((insS_perm x r).cons y).trans (List.Perm.swap x y r)
    · exact List.Perm.refl _
theorem sortS_perm : ∀ l : List α, (sortS lt l).Perm l
  | [] => List.Perm.refl _
  | x :: r => (insS_perm x _).trans ((sortS_perm r).cons x)
theorem insS_srtd (O : SrtO.Swo lt) (x : α) : ∀ l : List α, SrtO.Srtd lt l → SrtO.Srtd lt (insS lt x l)
  | [], _ => List.pairwise_singleton _ _
  | y :: r, h => by
    obtain ⟨h1, h2⟩ := List.pairwise_cons.mp h
    unfold insS
    split
    · rename_i hy
      refine List.pairwise_cons.mpr ⟨fun z hz => ?_, insS_srtd O x r h2⟩
      rcases List.mem_cons.mp ((insS_perm x r).mem_iff.mp hz) with e | e
      · rw [e]
        exact O.asym _ _ hy
      · exact h1 z e
    · rename_i hy
      have hy' : lt y x = false := by simpa using hy
      refine List.pairwise_cons.mpr ⟨fun z hz => ?_, h⟩
      rcases List.mem_cons.mp hz with e | e
      · rw [e]
        exact hy'
      · exact O.tr _ _ _ hy' (h1 z e)
theorem sortS_srtd (O : SrtO.Swo lt) : ∀ l : List α, SrtO.Srtd lt (sortS lt l)
  | [] => List.Pairwise.nil
  | x :: r => insS_srtd O x _ (sortS_srtd O r)
theorem srt_uniq (tot : ∀ a b, lt a b = false → lt b a = false → a = b) : ∀ {l m : List α}, SrtO.Srtd lt l → SrtO.Srtd lt m → l.Perm m → l = m
  | [], m, _, _, p => (List.Perm.nil_eq p)
  | a :: l, [], _, _, p => absurd p.length_eq (by simp)
  | a :: l, b :: m, h1, h2, p => by
    obtain ⟨a1, a2⟩ := List.pairwise_cons.mp h1
    obtain ⟨b1, b2⟩ := List.pairwise_cons.mp h2
    have e : a = b := by
      rcases List.mem_cons.mp (p.mem_iff.mp (List.mem_cons_self ..)) with e | e
      · exact e
      · rcases List.mem_cons.mp (p.mem_iff.mpr (List.mem_cons_self ..)) with e' | e'
        · exact e'.symm
        · exact tot _ _ (b1 _ e) (a1 _ e')
    subst e
    rw [srt_uniq tot a2 b2 (List.Perm.cons_inv p)]
theorem sort_is (O : SrtO.Swo lt) (tot : ∀ a b, lt a b = false → lt b a = false → a = b) {l m : List α} (h : SrtO.Srtd lt m) (p : m.Perm l) : sortS lt l = m :=
  srt_uniq tot (sortS_srtd O l) h ((sortS_perm l).trans p.symm)
end
theorem swoI : SrtO.Swo (fun a b : Int => decide (a < b)) := ⟨fun x y h => by
  have := of_decide_eq_true h
  exact decide_eq_false (by omega), fun x y z h h' => by
  have h1 := of_decide_eq_false h
  have h2 := of_decide_eq_false h'
  exact decide_eq_false (by omega)⟩
theorem totI (a b : Int) (h : decide (a < b) = false) (h' : decide (b < a) = false) : a = b := by
  have h1 := of_decide_eq_false h
  have h2 := of_decide_eq_false h'
  omega
theorem swoT : SrtO.Swo lexI := ⟨lexI_asym, lexI_tr⟩
section
variable {X : Cx}
/-- sum(t), t a tuple of ints -/
theorem cr_sumT (hc : X.calm = true) : CallR X (.builtin "sum") (fun vs H Q => ∃ (a : Addr) (ns : List Int), vs = [V.ref a] ∧ SqT X.K H a (ns.map V.int) ∧ Q (.int ns.sum) H) := by
  intro pins s σ H vs us Q I r h
  obtain ⟨a, ns, rfl, hs, q⟩ := h
  obtain ⟨its, rv, hl, _⟩ := I.tuple hs
  rw [Vals.ref1 r]
  have hi := rv.ints
  obtain ⟨xs, e⟩ := hi.allInts.items
  have hn : numsOf (intItems xs).toList = ns := by rw [← e]; exact hi.numsOf
  rw [nums_intItems] at hn
  rw [e] at hl
  refine PySem.W.ktm_sumG (I.ok.hd hc) hl fun h' tk t' hk => ?_
  rw [preSum_eq, List.take_of_length_le (by simp), hn]
  exact ⟨.int _, H, I.kept hk, ⟨_, rfl⟩, q⟩
end
end PF

set_option maxHeartbeats 4000000
/-! PFR: t[::-1], t a tuple or a list. -/
namespace PF
open PySem PySem.Spec PySem.Calls PyProof.Rows L2
section
variable {prog : Program} {w : World} {A : Around} {E : Value → Shared → Prop} {s : Shared}
theorem applied_rev {sl : Addr} {vl vu vs : Value} {n : Nat} {Q : Int × Int × Nat → Shared → Prop} (hs : s.heap.IsSliceOf sl vl vu vs) (pl : IsPart vl none) (pu : IsPart vu none) (ps : IsPart vs (some (-1)))
    (h : Q ((n : Int) - 1, -1, n) s) : wpAny (model prog w) A (Builtin.Slice.sliceApplied (.ref sl) (pure (n : Int))) Q E s := by
  obtain ⟨os, hos, hcs, hds⟩ := id hs
  unfold Builtin.Slice.sliceApplied Builtin.Slice.sliceFields
  refine wpAny_bind (wpAny_bind (wpAny_field hos hds (x := vl) rfl (wpAny_bind (wpAny_field hos hds (x := vu) rfl (wpAny_bind (wpAny_field hos hds (x := vs) rfl (wpAny_pure ?_)))))))
  refine wpAny_bind (HT.slicePart_ ps ?_)
  show wpAny _ _ (if ((-1 : Int) == 0) = true then _ else _) _ _ s
  rw [if_neg (by decide)]
  refine wpAny_bind (HT.slicePart_ pl (wpAny_bind (HT.slicePart_ pu (wpAny_bind (wpAny_pure ?_)))))
  show wpAny _ _ (match Builtin.Slice.sliceAdjust none none (-1) (n : Int) with | (lo, hi) => pure (lo, (-1 : Int), Builtin.Slice.slicePlaces lo hi (-1))) _ _ s
  show wpAny _ _ (pure ((n : Int) - 1, (-1 : Int), Builtin.Slice.slicePlaces ((n : Int) - 1) (-1) (-1))) _ _ s
  have e : Builtin.Slice.slicePlaces ((n : Int) - 1) (-1) (-1) = n := by
    unfold Builtin.Slice.slicePlaces
    rw [if_neg (by decide)]
    by_cases h0 : n = 0
    · subst h0
      rfl
    · rw [if_pos (by omega), show (-(-1) : Int) = 1 by decide, Int.ediv_one]
      omega
  rw [e]
  exact wpAny_pure h
theorem pick_rev (xs : Array Value) : ((List.range xs.size).filterMap fun (m : Nat) => xs[(((xs.size : Int) - 1) + (m : Int) * -1).toNat]?).toArray = xs.toList.reverse.toArray := by
  have e : (List.range xs.size).filterMap (fun (m : Nat) => xs[(((xs.size : Int) - 1) + (m : Int) * -1).toNat]?) = ((List.range xs.size).map fun k => xs.size - 1 - k).filterMap (xs[·]?) := by
    rw [List.filterMap_map]
    have e0 : (fun (m : Nat) => xs[(((xs.size : Int) - 1) + (m : Int) * -1).toNat]?) = (fun x => xs[x]?) ∘ fun k => xs.size - 1 - k := by
      funext m
      by_cases hm : m < xs.size
      · have : (((xs.size : Int) - 1) + (m : Int) * -1).toNat = xs.size - 1 - m := by omega
        rw [this]
        rfl
      · have h1 : (((xs.size : Int) - 1) + (m : Int) * -1).toNat = 0 := by omega
        have h2 : xs.size - 1 - m = 0 := by omega
        show xs[(((xs.size : Int) - 1) + (m : Int) * -1).toNat]? = xs[xs.size - 1 - m]?
        rw [h1, h2]
    rw [e0]
  rw [e, PySem.W.krv_range, List.filterMap_reverse, PySem.W.krv_all]
theorem getItem_tuple_rev {t sl : Addr} {items : Array Value} {vl vu vs : Value} {Q : Value → Shared → Prop} (ht : IsTup s.heap t items) (hs : s.heap.IsSliceOf sl vl vu vs) (pl : IsPart vl none) (pu : IsPart vu none) (ps : IsPart vs (some (-1)))
    (h : Q (.ref s.heap.objs.size) { s with heap := s.heap.push { cls := .type "tuple", data := .seq items.toList.reverse.toArray } })
    (hz : items.size ≤ sizeLine) : wpAny (model prog w) A (getItem (.ref t) (.ref sl)) Q E s := by
  have htake : sizeOk (.seq items.toList.reverse.toArray) := by
    show items.toList.reverse.toArray.size ≤ sizeLine
    rw [List.size_toArray, List.length_reverse, Array.length_toList]
    exact hz
  obtain ⟨os, hos, hcs, hds⟩ := id hs
  have hTs : s.TypeIs (.ref sl) "slice" := ⟨os, hos, hcs⟩
  unfold getItem
  try with_reducible refine wpAny_holding ?_
  first | refine wpAny_bind (wpAny_pure ?_) | skip
  refine wpAny_bind (wpAny_sequenceKey ht.typeIs (by decide) ?_)
  refine wpAny_bind (wpAny_callSpecial?_slot (name := Str.ofString "__getitem__") ht.typeIs PyProof.Rows.slot_tuple_getitem
    (wpAny_call_entry PyProof.Rows.slot_tuple_getitem ht.typeIs entry_tuple_getitem ?_ (args_tuple_getitem _ _)))
  show wpAny _ _ (Builtin.Tuple.tupleItemsOf (.ref t) >>= _) _ _ s
  refine wpAny_bind (tupleItemsOf_ ht ?_)
  refine wpAny_bind (wpAny_typeOf hTs ?_)
  rw [if_pos (by decide)]
  refine wpAny_bind (applied_rev hs pl pu ps ?_)
  have hno : ¬ ((((items.size : Int) - 1) == 0 && (-1 : Int) == 1 && items.size == items.size) = true) := by
    intro q
    rw [Bool.and_eq_true, Bool.and_eq_true] at q
    exact absurd q.1.2 (by decide)
  show wpAny _ _ (if (((items.size : Int) - 1) == 0 && (-1 : Int) == 1 && items.size == items.size) = true then _ else _) _ _ s
  rw [if_neg hno, pick_rev]
  first
    | exact wpAny_bind (m := Builtin.Tuple.tupleExact _) (wpAny_newObj_type (wpAny_pure ⟨_, rfl, wpAny_pure h⟩) htake)
    | exact wpAny_bind (m := Builtin.Tuple.tupleExact _) (wpAny_newObj_type (wpAny_bind (wpAny_pure (wpAny_pure ⟨_, rfl, wpAny_pure h⟩))) htake)
    | exact wpAny_bind (wpAny_bind (m := Builtin.Tuple.tupleExact _) (wpAny_newObj_type (wpAny_pure (wpAny_pure ⟨_, rfl, wpAny_pure h⟩)) htake))
    | exact wpAny_bind (wpAny_bind (m := Builtin.Tuple.tupleExact _) (wpAny_newObj_type (wpAny_pure ⟨_, rfl, wpAny_pure h⟩) htake))
end
section
variable {X : Cx}
def tRevA (K : PySem.W.Frag) (te : TE) : TE := fun σ H Q => te σ H fun x H1 => ∃ a xs, x = .ref a ∧ ((SqL K H1 a xs ∧ ∀ p, H1 p = none → Q (.ref p) (upd H1 p (.lst xs.reverse))) ∨ (SqT K H1 a xs ∧ ∀ p, H1 p = none → Q (.ref p) (upd H1 p (.tup xs.reverse))))
theorem pe_revA {e : Expr} {te : TE} {k : Nat} {p1 p2 p3 pos : Pos} (he : PE X e te) : PE X (.Subscript e (.Slice none none (some (.UnaryOp .USub (.Constant (.int 1) k p1) p2)) p3) pos) (tRevA X.K te) := by
  refine ⟨fun pins s σ H Q I h => ?_⟩
  refine Subscript_ (thn (he.run pins s σ H _ I h) fun v s1 ⟨x, H1, I1, r1, q1⟩ => ?_)
  obtain ⟨a, xs, ex, q1⟩ := q1
  subst ex
  cases r1
  have hst : PO X (some (.UnaryOp .USub (.Constant (.int 1) k p1) p2)) (tPart (tUn (rU fun i => .int (-i)) (tC (.int 1)))) := po_some (pe_un un_neg pe_int)
  refine wpAny_Slice (thn (po_none.run pins s1 σ H1 (fun o H2 => o = none ∧ H2 = H1) I1 ⟨rfl, rfl⟩) fun vl s2 ⟨l, H2, I2, pl, el, e2⟩ => ?_)
  subst el e2
  refine thn (po_none.run pins s2 σ H2 (fun o H3 => o = none ∧ H3 = H2) I2 ⟨rfl, rfl⟩) fun vu s3 ⟨u, H3, I3, pu, eu, e3⟩ => ?_
  subst eu e3
  refine thn (hst.run pins s3 σ H3 (fun o H4 => o = some (-1) ∧ H4 = H3) I3 ⟨1, rfl, -1, rfl, rfl, rfl⟩) fun vs s4 ⟨o, H4, I4, ps, eo, e4⟩ => ?_
  subst eo e4
  have I5 : L2.Inv X pins σ H4 { s4 with heap := s4.heap.push { cls := .type "slice", data := .fields #[vl, vu, vs] } } := I4.kept (t' := s4.toks) fun b ob q => Heap.get?_push_of_some _ q
  show wpAny (model X.prog X.w) X.A (subscriptTail e (.Slice none none (some (.UnaryOp .USub (.Constant (.int 1) k p1) p2)) p3) (.ref a) (.ref s4.heap.objs.size)) (EP X pins σ Q) X.xe { s4 with heap := s4.heap.push { cls := .type "slice", data := .fields #[vl, vu, vs] } }
  rcases q1 with ⟨hx, q⟩ | ⟨hx, q⟩
  · obtain ⟨its, r, ht, hz⟩ := I5.list hx
    have hlen := r.length
    refine tail_any (ops := [.ref a, .ref s4.heap.objs.size]) ht.isList.typeIs (PySem.slot_list_getitem.lookup) ?_ (by with_unfolding_all rfl)
    refine wpAny_getItem_list_slice ht.isList (Heap.IsSliceOf.new _ vl vu vs) pl pu ps (by decide) ?_ (by rw [List.size_toArray]; omega)
    rw [PySem.W.krv_pick]
    refine ⟨.ref _, _, I5.laid (t' := s4.toks) (o := .lst xs.reverse) (fun b ob q => Heap.get?_push_of_some _ q) (Nat.le_refl _) ?_, rfl, q _ (I5.hok.fresh (Nat.le_refl _))⟩
    exact ⟨by rw [List.length_reverse]; exact hz, _, 0, r.reverse, Heap.get?_push_size _ rfl⟩
  · obtain ⟨its, r, ht, hz⟩ := I5.tuple hx
    have hlen := r.length
    refine tail_any (ops := [.ref a, .ref s4.heap.objs.size]) ht.typeIs (PyProof.Rows.slot_tuple_getitem.lookup) ?_ (by with_unfolding_all rfl)
    refine getItem_tuple_rev ht (Heap.IsSliceOf.new _ vl vu vs) pl pu ps ?_ (by rw [List.size_toArray]; omega)
    refine ⟨.ref _, _, I5.laid (t' := s4.toks) (o := .tup xs.reverse) (fun b ob q => Heap.get?_push_of_some _ q) (Nat.le_refl _) ?_, rfl, q _ (I5.hok.fresh (Nat.le_refl _))⟩
    exact ⟨by rw [List.length_reverse]; exact hz, _, r.reverse, IsTup.new _ _⟩
end
end PF

/-! PFE: enumerate over a list or a tuple. -/
namespace PF
open PySem PySem.Spec PyProof.Rows L2
theorem enum_new1 {v : Value} {o : PySem.Obj} {H : Heap → Prop} (B : PySem.Begins v o H) :
    Meets (Builtin.«enumerate.__new__» ⟨[.type "enumerate", v], []⟩) (fun _ R s => H s.heap ∧
      R (.ok (.ret (.ref (s.heap.push o).objs.size))) { s with heap := (s.heap.push o).push { cls := .type "enumerate", data := .fields #[.none, .bool false, .ref s.heap.objs.size, rawInt 0, .none, .none] } }) :=
  .of_wp fun prog w A R s h => by
    obtain ⟨hp, g, d, tk, os⟩ := s; obtain ⟨h1, h⟩ := h
    have hsub := sub_enumerate
    have q1 : ∀ {A' : Around} {E : Value → Shared → Prop} {Q : Value → Shared → Prop}, Q (.ref hp.objs.size) ⟨hp.push o, g, d, tk, os⟩ → wpAny (model prog w) A' (pyIter v) Q E ⟨hp, g, d, tk, os⟩ :=
      fun q => B.iter prog w _ _ ⟨hp, g, d, tk, os⟩ _ h1 q
    wp_walk using q1
    refine wpAny_stack_any fun st => wpAny_pure ?_
    split
    · rename_i c _ _ _ _ _
      cases (c == Value.type "enumerate")
      · wp_walk using q1
        exact ⟨_, rfl, h⟩
      · wp_walk using q1
        exact ⟨_, rfl, h⟩
    · wp_walk using q1
      exact ⟨_, rfl, h⟩
section
variable {prog : Program} {w : World} {A : Around} {E : Value → Shared → Prop} {s : Shared}
theorem enum1_begins {v : Value} {o : PySem.Obj} {H : Heap → Prop} {Q : Value → Shared → Prop} (B : PySem.Begins v o H) (h1 : H s.heap)
    (h : ∀ h', IsEnum h' (s.heap.objs.size + 1) s.heap.objs.size 0 .none → h'.get? s.heap.objs.size = some o → h'.objs.size = s.heap.objs.size + 2 →
      (∀ b o, s.heap.get? b = some o → h'.get? b = some o) → Q (.ref (s.heap.objs.size + 1)) { s with heap := h' }) :
    wpAny (model prog w) A (call (.type "enumerate") [v]) Q E s := by
  refine callType_new F.called_enumerate (by decide) (F.typeCall_enumerate_1 _) (F.newCall_enumerate_1 _) (fun obj => F.args_object_init_2 obj _) F.entry_enumerate_new
    (enum_new1 B) ⟨h1, ?_⟩
  have hz : (s.heap.push o).objs.size = s.heap.objs.size + 1 := Heap.size_push ..
  show _ ∧ _
  rw [hz]
  have he : IsEnum ((s.heap.push o).push { cls := .type "enumerate", data := .fields #[.none, .bool false, .ref s.heap.objs.size, rawInt 0, .none, .none] }) (s.heap.objs.size + 1) s.heap.objs.size 0 .none := by
    have := Heap.get?_push_size (s.heap.push o) (o := { cls := .type "enumerate", data := .fields #[.none, .bool false, .ref s.heap.objs.size, rawInt 0, .none, .none] }) rfl
    rw [hz] at this; exact this
  refine ⟨⟨_, he, rfl⟩, h _ he (Heap.get?_push_of_some _ (Heap.get?_push_size _ B.free)) (by rw [Heap.size_push, hz]) fun b o x => Heap.get?_push_of_some _ (Heap.get?_push_of_some _ x)⟩
end
/-- the tuple at a, each item in a new pair with its place -/
def IteT (K : PySem.W.Frag) (a : Addr) : It :=
  ⟨fun i H => ∃ (xs : List V) (x : V), SqT K H a xs ∧ xs[i]? = some x, fun i H v H' => ∃ T x, v = .ref T ∧ H T = none ∧ H' = upd H T (.tup [.int (i : Nat), x]) ∧ ∀ xs, SqT K H a xs → xs[i]? = some x, fun i H => ∃ xs : List V, SqT K H a xs ∧ xs.length = i⟩
theorem turn_enumT {P : Program} {w : World} {K : PySem.W.Frag} {elts : List Expr} {kk : Nat} {tpos : Pos} (a e it : Addr) :
    Turn P w K (.Tuple elts kk tpos) (IteT K a) [e, it] e (fun i h => (∃ old, IsEnum h e it ((i : Nat) : Int) old) ∧ h.IsTupleIter it a i ∧ e ≠ it ∧ e ≠ a ∧ a ≠ it) where
  mem := by simp
  obj := fun i h st b hb => by
    obtain ⟨⟨old, he⟩, ⟨o, ho, hc, hd⟩, _⟩ := st
    have e' : b = e ∨ b = it := by simpa using hb
    rcases e' with z | z
    · rw [z]; exact ⟨_, he, fun v q => nomatch q⟩
    · rw [z]; exact ⟨o, ho, fun v q => by rw [hd] at q; cases q⟩
  keep := fun i h h' st k => let ⟨⟨old, he⟩, hi, hne⟩ := st; ⟨⟨old, k e (by simp) _ he⟩, hi.at fun o q => k it (by simp) o q, hne⟩
  item := by
    intro X hP hw hK hc i pins s σ H E I hf st hg
    subst hP hw hK
    obtain ⟨⟨old, he⟩, hit, hne, hea, hai⟩ := st
    obtain ⟨xs, x, hq, hx⟩ := hg
    obtain ⟨its, rv, p, hz⟩ := I.tuple hq
    obtain ⟨u, hu, ru⟩ := rv.get hx
    have hel : e < s.heap.objs.size := Heap.lt_size he
    have hil : it < s.heap.objs.size := by obtain ⟨_, q, _⟩ := hit; exact Heap.lt_size q
    have hil2 : i < its.toArray.size := by
      have := rv.length
      obtain ⟨h1, _⟩ := List.getElem?_eq_some_iff.mp hx
      simp
      omega
    refine wpAny_pyNext_enum_itemD (Draws.tuple (A := X.A.in1) (show X.A.in1.handled = none from I.ok.hd hc) it a hai its.toArray) he ⟨hit, p⟩ hil2 hne (by simp; exact ⟨hne, hea⟩) fun x' h' tk hP' ho hst hT hsz hk => ?_
    have ex : x' = u := by
      have : its.toArray[i]? = some u := by simpa using hu
      rw [this] at hP'
      exact (Option.some.inj hP').symm
    subst ex
    refine ⟨_, rfl, wpAny_letOwnedTupleGo_enum (s := { s with heap := h', toks := tk + 1 }) ho fun h'' he' sb => ?_⟩
    have hT2 : h''.get? s.heap.objs.size = some { cls := .type "tuple", data := .seq #[.int i tk, x'] } := (sb.2 _ (Nat.ne_of_gt hel)).trans hT
    have new : ObjOk X.prog X.w (upd H s.heap.objs.size (.tup [.int (i : Nat), x])) h'' s.heap.objs.size (.tup [.int (i : Nat), x]) :=
      ⟨by show 2 ≤ sizeLine; decide, [.int i tk, x'], .cons ⟨_, rfl⟩ (.cons ru .nil), ⟨_, hT2, rfl, _, rfl⟩⟩
    have I1 : Inv X pins σ (upd H s.heap.objs.size (.tup [.int (i : Nat), x])) { s with heap := h'', toks := tk + 1 } :=
      I.turnedNew (t' := tk + 1) (ch := [e, it]) (fun b ob hb q => (sb.2 b (fun z => hb (by simp [z]))).trans (hk b ob (fun z => hb (by simp [z])) (fun z => hb (by simp [z])) q)) hf (Nat.le_refl _) new
    refine ⟨.ref s.heap.objs.size, _, I1, rfl, ⟨_, x, rfl, I.hok.fresh (Nat.le_refl _), rfl, fun ys hy => by rw [I.tuple_inj hy hq]; exact hx⟩, ⟨⟨x', ?_⟩, hst.1.at fun o q => (sb.2 it (Ne.symm hne)).trans q, hne, hea, hai⟩, fun b hb => ?_⟩
    · have e1 : ((i + 1 : Nat) : Int) = (i : Int) + 1 := by omega
      rw [e1]; exact he'
    · have hb' : b < s.heap.objs.size := by
        have e' : b = e ∨ b = it := by simpa using hb
        rcases e' with z | z
        · rw [z]; exact hel
        · rw [z]; exact hil
      rw [upd_ne (Nat.ne_of_lt hb')]
      exact (hf b hb).1
  done := by
    intro X hP hw hK hc i pins s σ H E I hf st hg
    subst hP hw hK
    obtain ⟨⟨old, he⟩, hit, hne, hea, hai⟩ := st
    obtain ⟨xs, hq, hx⟩ := hg
    obtain ⟨its, rv, p, hz⟩ := I.tuple hq
    obtain ⟨f0, f1, f2, f3, f4, f5⟩ := hf it (by simp)
    have hl := rv.length
    have hge : i = its.toArray.size := by simp; omega
    subst hge
    exact wpAny_pyNext_enum_endD (Draws.tuple (A := X.A.in1) (show X.A.in1.handled = none from I.ok.hd hc) it a hai its.toArray) he ⟨hit, p⟩ fun h' eb => ⟨rfl, I.turned (t' := s.toks) (fun b o hb q => eb b o hb q) f0 f1 f3 f4 f5⟩
  self := fun A i s Q E st h => let ⟨⟨_, he⟩, _⟩ := st; wpAny_pyIter_enum he h
def iEnum2 (K : PySem.W.Frag) (ta : TA) : TI := fun σ H R => ta σ H fun vs H1 => ∃ a xs, vs = [.ref a] ∧ ((SqL K H1 a xs ∧ R (Ite K a) H1) ∨ (SqT K H1 a xs ∧ R (IteT K a) H1))
theorem pi_enum2 {X : Cx} {e : Expr} {ta : TA} {p pos tpos : Pos} {elts : List Expr} {kk : Nat} (hg : Gl X "enumerate") (hm : X.mg "enumerate" = none) (ha : PA X [e] ta) (hs : starEach [e] X.env = [(false, eval e X.env)] := by rfl) :
    PI X (.Tuple elts kk tpos) (.Call (.Name "enumerate" p) [e] [] pos) (iEnum2 X.K ta) := by
  refine ⟨fun pins s σ H R I h => ?_⟩
  refine Call_ (ld_blt I hg hm boot_enumerate (PyProof.Rows.callWith_type1 (thn (ha.run pos pins s σ H _ I h) fun us s1 ⟨vs, H1, I1, r1, q1⟩ => ?_) hs rfl))
  obtain ⟨a, xs, ex, q1⟩ := q1
  subst ex
  cases r1 with
  | cons r rr =>
    cases rr
    cases r
    have fp : ∀ b ∈ [s1.heap.objs.size + 1, s1.heap.objs.size], FpOk X pins H1 b := fun b hb => by
      have e' : b = s1.heap.objs.size + 1 ∨ b = s1.heap.objs.size := by simpa using hb
      have hle : s1.heap.objs.size ≤ b := by
        rcases e' with z | z
        · rw [z]; exact Nat.le_add_right _ _
        · rw [z]; exact Nat.le_refl _
      exact I1.fpOk hle (I1.hok.fresh hle)
    rcases q1 with ⟨hq, q⟩ | ⟨hq, q⟩
    · obtain ⟨its, rv, p', hz⟩ := I1.list hq
      refine call_enumerate_list p'.isList fun h' he hit hsz hk => wpAny_pyIter_enum he ?_
      have I2 : Inv X pins σ H1 { s1 with heap := h' } := I1.kept (t' := s1.toks) hk
      exact ⟨s1.heap.objs.size + 1, [s1.heap.objs.size + 1, s1.heap.objs.size], _, _, H1, rfl, I2, turn_enum a (s1.heap.objs.size + 1) s1.heap.objs.size, ⟨⟨.none, he⟩, hit, Nat.succ_ne_self _⟩, fp, q⟩
    · obtain ⟨its, rv, p', hz⟩ := I1.tuple hq
      obtain ⟨o1, ho1, _⟩ := id p'
      have hlt := Heap.lt_size ho1
      refine enum1_begins (PySem.begins_tuple a its.toArray) (show s1.heap.IsTuple a its.toArray from p') fun h' he hit hsz hk => wpAny_pyIter_enum he ?_
      have I2 : Inv X pins σ H1 { s1 with heap := h' } := I1.kept (t' := s1.toks) hk
      exact ⟨s1.heap.objs.size + 1, [s1.heap.objs.size + 1, s1.heap.objs.size], _, _, H1, rfl, I2, turn_enumT a (s1.heap.objs.size + 1) s1.heap.objs.size, ⟨⟨.none, he⟩, ⟨_, hit, rfl, rfl⟩, Nat.succ_ne_self _, Nat.ne_of_gt (Nat.lt_succ_of_lt hlt), Nat.ne_of_lt hlt⟩, fp, q⟩
theorem walk_enumT {K : PySem.W.Frag} {a : Addr} {xs : List V} : Walk (IteT K a) xs.length (fun H => SqT K H a xs) (YPair (fun i => some (.int (i : Nat))) (fun i => xs[i]?)) := by
  refine ⟨fun i _ hi q => ⟨xs, xs[i], q, by simp [hi]⟩, fun _ q => ⟨xs, q, rfl⟩, fun i H v H' _ q y => ?_⟩
  obtain ⟨T, x, h1, h2, h3, h4⟩ := y
  exact ⟨T, .int (i : Nat), x, h1, h2, h3, rfl, h4 xs q⟩
end PF

set_option maxHeartbeats 2000000
/-! PFQ: == and != of a dict and a text. -/
namespace PF
open PySem PySem.Spec PyProof.Rows L2
open AutoSeq1 (wpAny_loadPart')
theorem dict_eq_str_no (l : Addr) (es : Array DictEntry) (ep : Nat) (dd : Option Addr) (sl : Array (Option Value)) (b : Str) (u : Tok) :
    Meets (Builtin.«dict.__eq__» ⟨[.ref l, .str b u], []⟩) (fun _ R s => s.heap.get? l = some { cls := .type "dict", dict := dd, data := .dict es ep, slots := sl } ∧ R (.ok (.ret .notImplemented)) s) :=
  .of_wp fun prog w A R s h => by
    obtain ⟨hp, g, d, tk, os⟩ := s
    obtain ⟨hl, h⟩ := h
    have f1 := F.sub_str_dict
    wp_walk using wpAny_loadPart' hl
    exact ⟨_, rfl, h⟩
theorem str_eq_dict_no (b : Str) (u : Tok) (l : Addr) (es : Array DictEntry) (ep : Nat) (dd : Option Addr) (sl : Array (Option Value)) :
    Meets (Builtin.«str.__eq__» ⟨[.str b u, .ref l], []⟩) (fun _ R s => s.heap.get? l = some { cls := .type "dict", dict := dd, data := .dict es ep, slots := sl } ∧ R (.ok (.ret .notImplemented)) s) :=
  .of_wp fun prog w A R s h => by obtain ⟨hp, g, d, tk, os⟩ := s; obtain ⟨hl, h⟩ := h; wp_walk using wpAny_loadPart' hl, wpAny_load hl; exact ⟨_, rfl, h⟩
theorem dict_eq_str {A : Around} {s : Shared} {M : Program} {w : World} {l : Addr} {kvs : List (L2.Key × Value)} (b : Str) (u : Tok) (hl : s.heap.DictOf (mixKind M w) l kvs) (hu : A.units < cLine) : SeqAt.RcAt A s (.ref l) (.str b u) false := fun prog w E Q h => by
  obtain ⟨⟨cls, dd, data, sl⟩, es, ep, ho, hc, hd, _⟩ := id hl
  have hT : s.TypeIs (.ref l) "dict" := hl.typeIs
  have hc : cls = .type "dict" := hc.1
  simp only at hc hd
  subst hc hd
  exact SeqAt.rc_eq_decline_or (k := false) hT (typeIs_str s b u) (by decide) F.sub_str_dict F.slot_dict_eq F.slot_str_eq_refl
    (fun _ hq => call_meets F.slot_dict_eq hT F.entry_dict_eq (F.args_dict_eq_2 _ _) (dict_eq_str_no l es ep dd sl b u) ⟨ho, hq⟩)
    (fun _ hq => call_meets F.slot_str_eq_refl (typeIs_str s b u) F.entry_str_eq (F.args_str_eq_2 _ _) (str_eq_dict_no b u l es ep dd sl) ⟨ho, hq⟩)
    (fun _ hq => wpAny_of_eq (rfl : isSame (.ref l) (.str b u) = pure false) hq) (.inr hu) h
theorem dict_ne_str_no (l : Addr) (es : Array DictEntry) (ep : Nat) (dd : Option Addr) (sl : Array (Option Value)) (b : Str) (u : Tok) :
    Meets (Builtin.«dict.__ne__» ⟨[.ref l, .str b u], []⟩) (fun _ R s => s.heap.get? l = some { cls := .type "dict", dict := dd, data := .dict es ep, slots := sl } ∧ R (.ok (.ret .notImplemented)) s) :=
  .of_wp fun prog w A R s h => by
    obtain ⟨hp, g, d, tk, os⟩ := s
    obtain ⟨hl, h⟩ := h
    have f1 := F.sub_str_dict
    wp_walk using wpAny_loadPart' hl
    exact ⟨_, rfl, h⟩
theorem str_ne_dict_no (b : Str) (u : Tok) (l : Addr) (es : Array DictEntry) (ep : Nat) (dd : Option Addr) (sl : Array (Option Value)) :
    Meets (Builtin.«str.__ne__» ⟨[.str b u, .ref l], []⟩) (fun _ R s => s.heap.get? l = some { cls := .type "dict", dict := dd, data := .dict es ep, slots := sl } ∧ R (.ok (.ret .notImplemented)) s) :=
  .of_wp fun prog w A R s h => by obtain ⟨hp, g, d, tk, os⟩ := s; obtain ⟨hl, h⟩ := h; wp_walk using wpAny_loadPart' hl, wpAny_load hl; exact ⟨_, rfl, h⟩
theorem dict_ne_str {A : Around} {s : Shared} {M : Program} {w : World} {l : Addr} {kvs : List (L2.Key × Value)} (b : Str) (u : Tok) (hl : s.heap.DictOf (mixKind M w) l kvs) (hu : A.units < cLine) : SeqAt.RcNeAt A s (.ref l) (.str b u) true := fun prog w E Q h => by
  obtain ⟨⟨cls, dd, data, sl⟩, es, ep, ho, hc, hd, _⟩ := id hl
  have hT : s.TypeIs (.ref l) "dict" := hl.typeIs
  have hc : cls = .type "dict" := hc.1
  simp only at hc hd
  subst hc hd
  exact SeqAt.rc_ne_decline_or (k := false) hT (typeIs_str s b u) (by decide) F.sub_str_dict F.slot_dict_ne F.slot_str_ne_refl
    (fun _ hq => call_meets F.slot_dict_ne hT F.entry_dict_ne (F.args_dict_ne_2 _ _) (dict_ne_str_no l es ep dd sl b u) ⟨ho, hq⟩)
    (fun _ hq => call_meets F.slot_str_ne_refl (typeIs_str s b u) F.entry_str_ne (F.args_str_ne_2 _ _) (str_ne_dict_no b u l es ep dd sl) ⟨ho, hq⟩)
    (fun _ hq => wpAny_of_eq (rfl : isSame (.ref l) (.str b u) = pure false) hq) (.inr hu) h
section
variable {X : Cx}
/-- a list, a tuple or a dict against a text -/
def rEqS (K : PySem.W.Frag) : R2 := fun x y H Q => ∃ (a : Addr) (z : Str), x = .ref a ∧ y = .str z ∧ ((∃ vs, SqL K H a vs) ∨ (∃ vs, SqT K H a vs) ∨ ∃ ks, Rd H a (.dK ks)) ∧ Q (.bl false) H
def rNeS (K : PySem.W.Frag) : R2 := fun x y H Q => ∃ (a : Addr) (z : Str), x = .ref a ∧ y = .str z ∧ ((∃ vs, SqL K H a vs) ∨ (∃ vs, SqT K H a vs) ∨ ∃ ks, Rd H a (.dK ks)) ∧ Q (.bl true) H
theorem op_eqS (hu : X.A.units < cLine) : OpR X (compareOp .Eq) (rEqS X.K) := by
  intro pins s σ H x y v u Q I rx ry h
  obtain ⟨a, z, rfl, rfl, hs, q⟩ := h
  obtain rfl : v = Value.ref a := rx
  obtain ⟨t, rfl⟩ := ry
  rcases hs with ⟨vs, hs⟩ | ⟨vs, hs⟩ | ⟨ks, hs⟩
  · obtain ⟨us, r1, p1, _⟩ := I.list hs
    exact SeqAt.RcAt.list_str z t p1.isList hu _ _ _ _ ⟨.bl false, H, I, rfl, q⟩
  · obtain ⟨us, r1, p1, _⟩ := I.tuple hs
    exact SeqAt.RcAt.tuple_str z t p1 hu _ _ _ _ ⟨.bl false, H, I, rfl, q⟩
  · obtain ⟨_, _, _, _, da⟩ := dk_rd I.hok hs
    exact dict_eq_str z t da hu _ _ _ _ ⟨.bl false, H, I, rfl, q⟩
theorem op_neS (hu : X.A.units < cLine) : OpR X (compareOp .NotEq) (rNeS X.K) := by
  intro pins s σ H x y v u Q I rx ry h
  obtain ⟨a, z, rfl, rfl, hs, q⟩ := h
  obtain rfl : v = Value.ref a := rx
  obtain ⟨t, rfl⟩ := ry
  rcases hs with ⟨vs, hs⟩ | ⟨vs, hs⟩ | ⟨ks, hs⟩
  · obtain ⟨us, r1, p1, _⟩ := I.list hs
    exact SeqAt.RcNeAt.list_str z t p1.isList hu _ _ _ _ ⟨.bl true, H, I, rfl, q⟩
  · obtain ⟨us, r1, p1, _⟩ := I.tuple hs
    exact SeqAt.RcNeAt.tuple_str z t p1 hu _ _ _ _ ⟨.bl true, H, I, rfl, q⟩
  · obtain ⟨_, _, _, _, da⟩ := dk_rd I.hok hs
    exact dict_ne_str z t da hu _ _ _ _ ⟨.bl true, H, I, rfl, q⟩
/-- max, min of a tuple of ints -/
def rMaxT (K : PySem.W.Frag) : List V → Hp → VK → Prop := fun vs H Q => ∃ (a : Addr) (ns : List Int), vs = [V.ref a] ∧ SqT K H a (ns.map V.int) ∧ 0 < ns.length ∧ ∀ m, m ∈ ns → (∀ y, y ∈ ns → y ≤ m) → Q (.int m) H
def rMinT (K : PySem.W.Frag) : List V → Hp → VK → Prop := fun vs H Q => ∃ (a : Addr) (ns : List Int), vs = [V.ref a] ∧ SqT K H a (ns.map V.int) ∧ 0 < ns.length ∧ ∀ m, m ∈ ns → (∀ y, y ∈ ns → m ≤ y) → Q (.int m) H
theorem reads_ints {h : Heap} : ∀ {us : List Value} {ns : List Int}, IntsAre us ns → ReadsAll h us (ns.map .int) []
  | _, _, .nil => .nil
  | _, _, .cons n t r => ReadsAll.cons (as := []) (.int n t) (reads_ints r)
theorem fold_max : ∀ (r : List Int) (n : Int), (r.foldl max n = n ∨ r.foldl max n ∈ r) ∧ n ≤ r.foldl max n ∧ ∀ y ∈ r, y ≤ r.foldl max n
  | [], n => ⟨.inl rfl, Int.le_refl _, by simp⟩
  | x :: r, n => by
    obtain ⟨a, b, c⟩ := fold_max r (max n x)
    refine ⟨?_, by rw [List.foldl_cons]; omega, fun y hy => ?_⟩
    · rw [List.foldl_cons]
      rcases a with a | a
      · by_cases h : n ≤ x
        · exact .inr (by rw [a, show max n x = x by omega]; exact List.mem_cons_self ..)
        · exact .inl (by rw [a]; omega)
      · exact .inr (List.mem_cons_of_mem _ a)
    · rw [List.foldl_cons]
      rcases List.mem_cons.mp hy with rfl | hy
      · omega
      · exact c y hy
theorem fold_min : ∀ (r : List Int) (n : Int), (r.foldl min n = n ∨ r.foldl min n ∈ r) ∧ r.foldl min n ≤ n ∧ ∀ y ∈ r, r.foldl min n ≤ y
  | [], n => ⟨.inl rfl, Int.le_refl _, by simp⟩
  | x :: r, n => by
    obtain ⟨a, b, c⟩ := fold_min r (min n x)
    refine ⟨?_, by rw [List.foldl_cons]; omega, fun y hy => ?_⟩
    · rw [List.foldl_cons]
      rcases a with a | a
      · by_cases h : x ≤ n
        · exact .inr (by rw [a, show min n x = x by omega]; exact List.mem_cons_self ..)
        · exact .inl (by rw [a]; omega)
      · exact .inr (List.mem_cons_of_mem _ a)
    · rw [List.foldl_cons]
      rcases List.mem_cons.mp hy with rfl | hy
      · omega
      · exact c y hy
theorem alike_ints (ns : List Int) : PySem.W.AlikeAll (ns.map .int) := ⟨fun x hx y hy => by
  obtain ⟨a, _, rfl⟩ := List.mem_map.mp hx
  obtain ⟨b, _, rfl⟩ := List.mem_map.mp hy
  rfl, fun x hx => by
  obtain ⟨a, _, rfl⟩ := List.mem_map.mp hx
  exact fun z => by cases z⟩
theorem depth_ints : ∀ ns : List Int, PyData.depthAll (ns.map .int) = 0
  | [] => by simp [PyData.depthAll]
  | n :: r => by simp [PyData.depthAll, PyData.depth, depth_ints r]
theorem cr_maxT (hc : X.calm = true) (hu : X.A.units + 65 < cLine) : CallR X (.builtin "max") (rMaxT X.K) := by
  intro pins s σ H vs us Q I r h
  obtain ⟨a, ns, rfl, hs, hne, q⟩ := h
  obtain ⟨its, rv, hl, _⟩ := I.tuple hs
  rw [Vals.ref1 r]
  cases ns with
  | nil => exact absurd hne (by simp)
  | cons n r' =>
    have hi : IntsAre its (n :: r') := rv.ints
    have rd := reads_ints (h := s.heap) hi
    refine PySem.W.max_tuple_data (x := .int n) (xs := r'.map .int) (as := []) (I.ok.hd hc) (show s.heap.IsTuple a its.toArray from hl) (by simpa using rd) (alike_ints (n :: r')) (by
      have := depth_ints (n :: r')
      rw [List.map_cons] at this
      omega) fun i v h' tk bs hv hr hk => ?_
    rw [PySem.W.maxD_ints] at hr
    obtain ⟨m1, m2, m3⟩ := fold_max r' n
    cases hr
    refine ⟨.int _, H, I.kept hk, ⟨_, rfl⟩, q _ ?_ fun y hy => ?_⟩
    · rcases m1 with e | e
      · rw [e]; exact List.mem_cons_self ..
      · exact List.mem_cons_of_mem _ e
    · rcases List.mem_cons.mp hy with rfl | hy
      · exact m2
      · exact m3 y hy
theorem cr_minT (hc : X.calm = true) (hu : X.A.units + 65 < cLine) : CallR X (.builtin "min") (rMinT X.K) := by
  intro pins s σ H vs us Q I r h
  obtain ⟨a, ns, rfl, hs, hne, q⟩ := h
  obtain ⟨its, rv, hl, _⟩ := I.tuple hs
  rw [Vals.ref1 r]
  cases ns with
  | nil => exact absurd hne (by simp)
  | cons n r' =>
    have hi : IntsAre its (n :: r') := rv.ints
    have rd := reads_ints (h := s.heap) hi
    refine PySem.W.min_tuple_data (x := .int n) (xs := r'.map .int) (as := []) (I.ok.hd hc) (show s.heap.IsTuple a its.toArray from hl) (by simpa using rd) (alike_ints (n :: r')) (by
      have := depth_ints (n :: r')
      rw [List.map_cons] at this
      omega) fun i v h' tk bs hv hr hk => ?_
    rw [PySem.W.minD_ints] at hr
    obtain ⟨m1, m2, m3⟩ := fold_min r' n
    cases hr
    refine ⟨.int _, H, I.kept hk, ⟨_, rfl⟩, q _ ?_ fun y hy => ?_⟩
    · rcases m1 with e | e
      · rw [e]; exact List.mem_cons_self ..
      · exact List.mem_cons_of_mem _ e
    · rcases List.mem_cons.mp hy with rfl | hy
      · exact m2
      · exact m3 y hy
end
end PF

set_option maxHeartbeats 2000000
/-! PFC: chains of three comparisons. -/
namespace PF
open PySem PySem.Spec PyProof.Rows L2
/-- a op1 b op2 c op3 d -/
def tChain3 (r r' r'' : R2) (ta tb tc td : TE) : TE := fun σ H Q => ta σ H fun x H1 => tb σ H1 fun y H2 => r x y H2 fun z H3 => ∃ k, z = .bl k ∧
  (if k = true then tc σ H3 fun u H4 => r' y u H4 fun z2 H5 => ∃ k2, z2 = .bl k2 ∧ (if k2 = true then td σ H5 fun v H6 => r'' u v H6 Q else Q (.bl false) H5) else Q (.bl false) H3)
section
variable {X : Cx} {a b c d : Expr} {ta tb tc td : TE} {pos : Pos}
theorem pe_chain3 {op op' op'' : CmpOp} {r r' r'' : R2} (ho : OpR X (compareOp op) r) (ho' : OpR X (compareOp op') r') (ho'' : OpR X (compareOp op'') r'') (ha : PE X a ta) (hb : PE X b tb) (hc : PE X c tc) (hd : PE X d td)
    (hm : lastMarks [op, op', op''] [b, c, d] = false) : PE X (.Compare a [op, op', op''] [b, c, d] pos) (tChain3 r r' r'' ta tb tc td) := by
  refine ⟨fun pins s σ H Q I h => ?_⟩
  refine Compare_chain (thn (ha.run pins s σ H _ I h) fun v s1 ⟨x, H1, I1, r1, q1⟩ => chain_link (thn (hb.run pins s1 σ H1 _ I1 q1) fun u s2 ⟨y, H2, I2, r2, q2⟩ =>
    thn (ho pins s2 σ H2 x y v u _ I2 r1 r2 q2) fun e s3 ⟨z, H3, I3, r3, k, ek, q3⟩ => ?_)) hm
  subst ek
  cases r3
  refine wpAny_truthy_bool ?_
  cases k with
  | false => exact ite_ff ⟨.bl false, H3, I3, rfl, q3⟩
  | true =>
    refine ite_tt (chain_link (thn (hc.run pins s3 σ H3 _ I3 q3) fun u2 s4 ⟨y2, H4, I4, r4, q4⟩ => thn (ho' pins s4 σ H4 y y2 u u2 _ I4 r2 r4 q4) fun e2 s5 ⟨z2, H5, I5, r5, k2, ek2, q5⟩ => ?_))
    subst ek2
    cases r5
    refine wpAny_truthy_bool ?_
    cases k2 with
    | false => exact ite_ff ⟨.bl false, H5, I5, rfl, q5⟩
    | true => exact ite_tt (chain_last (thn (hd.run pins s5 σ H5 _ I5 q5) fun w' s6 ⟨z', H6, I6, r6, q6⟩ => ho'' pins s6 σ H6 y2 z' u2 w' Q I6 r4 r6 q6))
theorem pt_chain3 {op op' op'' : CmpOp} {r r' r'' : R2} (ho : OpR X (compareOp op) r) (ho' : OpR X (compareOp op') r') (ho'' : OpR X (compareOp op'') r'') (ha : PE X a ta) (hb : PE X b tb) (hc : PE X c tc) (hd : PE X d td)
    (hm : lastMarks [op, op', op''] [b, c, d] = false) : PT X (.Compare a [op, op', op''] [b, c, d] pos) (tTest (tChain3 r r' r'' ta tb tc td)) := by
  refine ⟨fun pins s σ H Q I h => ?_⟩
  refine isTrue_chain (thn (ha.run pins s σ H _ I h) fun v s1 ⟨x, H1, I1, r1, q1⟩ => test_link (thn (hb.run pins s1 σ H1 _ I1 q1) fun u s2 ⟨y, H2, I2, r2, q2⟩ =>
    thn (ho pins s2 σ H2 x y v u _ I2 r1 r2 q2) fun e s3 ⟨z, H3, I3, r3, k, ek, q3⟩ => ?_)) hm
  subst ek
  cases r3
  refine wpAny_truthy_bool ?_
  cases k with
  | false =>
    obtain ⟨k', e', q'⟩ := q3
    cases e'
    exact ite_ff ⟨H3, I3, q'⟩
  | true =>
    refine ite_tt (test_link (thn (hc.run pins s3 σ H3 _ I3 q3) fun u2 s4 ⟨y2, H4, I4, r4, q4⟩ => thn (ho' pins s4 σ H4 y y2 u u2 _ I4 r2 r4 q4) fun e2 s5 ⟨z2, H5, I5, r5, k2, ek2, q5⟩ => ?_))
    subst ek2
    cases r5
    refine wpAny_truthy_bool ?_
    cases k2 with
    | false =>
      obtain ⟨k', e', q'⟩ := q5
      cases e'
      exact ite_ff ⟨H5, I5, q'⟩
    | true =>
      refine ite_tt (test_last (thn (hd.run pins s5 σ H5 _ I5 q5) fun w' s6 ⟨z', H6, I6, r6, q6⟩ => thn (ho'' pins s6 σ H6 y2 z' u2 w' _ I6 r4 r6 q6) fun d' s7 ⟨z3, H7, I7, r7, k3, e3, q7⟩ => ?_))
      subst e3
      cases r7
      exact wpAny_truthy_bool ⟨H7, I7, q7⟩
end
end PF

/-! PF3: the operations on data, each with its rule over the abstract heap. -/
namespace PF
open PySem PySem.Spec PyProof.Rows L2
section
variable {K : PySem.W.Frag} {H F : Hp} {x y : V} {d : PyData} {ds : List PyData} {Q : VK}
/-- an operand: data, or a name's own list as it stands -/
def Opd (K : PySem.W.Frag) (F H : Hp) (x : V) (d : PyData) : Prop := Dq K F x d ∨ (∃ p vs ds, x = .ref p ∧ d = .list ds ∧ H p = some (.lst vs) ∧ DqAll K F vs ds) ∨ ∃ p ps kvs, x = .ref p ∧ d = .dict kvs ∧ H p = some (.dK ps) ∧ DqKV K F ps kvs
/-- what is wanted of a thing just made -/
def Made (K : PySem.W.Frag) (H F : Hp) (r : Sl) (Q : VK) : Prop := ∀ v H' F', Same F F' → Same F' H' → Same H H' → NFS H H' → (∀ b, F' b ≠ none → F b ≠ none ∨ H b = none) → RV K H H' F' v r → Q v H'
theorem Made.v (m : Made K H F (.v d) Q) (s : Same F H) (q : Dq K F x d) : Q x H := m x H F (Same.refl _) s (Same.refl _) (.refl _) (fun _ h => .inl h) q
theorem Made.o {p : Addr} {vs : List V} (m : Made K H F (.o ds) Q) (s : Same F H) (q : DqAll K F vs ds) (hp : H p = none) : Q (.ref p) (upd H p (.lst vs)) := by
  have fp : F p = none := s.free hp
  refine m _ _ F (Same.refl _) (fun b o e => ?_) (fun b o e => ?_) (NFS.upd NL.lst) (fun _ h => .inl h) ⟨p, vs, rfl, hp, fp, upd_same, q⟩
  · rw [upd_ne (ne_of_none e fp)]
    exact s b o e
  · rw [upd_ne (ne_of_none e hp)]
    exact e
theorem Made.t {p : Addr} {vs : List V} (m : Made K H F (.v (.tuple ds)) Q) (s : Same F H) (q : DqAll K F vs ds) (hp : H p = none) : Q (.ref p) (upd H p (.tup vs)) := by
  have fp : F p = none := s.free hp
  have m1 : Same F (upd F p (.tup vs)) := same_upd1 fp
  refine m _ _ (upd F p (.tup vs)) m1 (fun b o e => ?_) (fun b o e => ?_) (NFS.upd NL.tup) (fun b h => ?_) (.tup (.inl (.inl upd_same)) (dpAllMono m1 _ q))
  · by_cases hb : b = p
    · subst hb
      rw [upd_same] at e ⊢
      exact e
    · rw [upd_ne hb] at e ⊢
      exact s b o e
  · rw [upd_ne (ne_of_none e hp)]
    exact e
  · by_cases hb : b = p
    · subst hb
      exact .inr hp
    · rw [upd_ne hb] at h
      exact .inl h
theorem opd_int {i : Int} (h : Opd K F H x (.int i)) : x = .int i := by
  rcases h with h | ⟨_, _, _, _, e, _⟩ | ⟨_, _, _, _, e, _⟩
  · cases h
    rfl
  · cases e
  · cases e
theorem opd_bool {k : Bool} (h : Opd K F H x (.bool k)) : x = .bl k := by
  rcases h with h | ⟨_, _, _, _, e, _⟩ | ⟨_, _, _, _, e, _⟩
  · cases h
    rfl
  · cases e
  · cases e
theorem opd_str {z : Str} (h : Opd K F H x (.str z)) : x = .str z := by
  rcases h with h | ⟨_, _, _, _, e, _⟩ | ⟨_, _, _, _, e, _⟩
  · cases h
    rfl
  · cases e
  · cases e
theorem opd_none (h : Opd K F H x .none) : x = .non := by
  rcases h with h | ⟨_, _, _, _, e, _⟩ | ⟨_, _, _, _, e, _⟩
  · cases h
    rfl
  · cases e
  · cases e
theorem opd_list (s : Same F H) (h : Opd K F H x (.list ds)) : ∃ p vs, x = .ref p ∧ RdL K H p vs ∧ DqAll K F vs ds := by
  rcases h with h | ⟨p, vs, es, e1, e, h1, h2⟩ | ⟨_, _, _, _, e, _⟩
  · cases h with
    | lst h1 h2 => exact ⟨_, _, rfl, rdlMono s h1, h2⟩
  · cases e
    exact ⟨p, vs, e1, .inl (.inl h1), h2⟩
  · cases e
theorem opd_tup (s : Same F H) (h : Opd K F H x (.tuple ds)) : ∃ p vs, x = .ref p ∧ SqT K H p vs ∧ DqAll K F vs ds := by
  rcases h with h | ⟨_, _, _, _, e, _⟩ | ⟨_, _, _, _, e, _⟩
  · cases h with
    | tup h1 h2 => exact ⟨_, _, rfl, sqtMono s h1, h2⟩
  · cases e
  · cases e
theorem fnQ_ints {kvs : List (PyData × PyData)} {ns : List Int} (e : intsD (kvs.map (·.1)) = some ns) : fnQ kvs = false := by
  unfold fnQ
  split
  · cases e
  · rfl
theorem opd_ref {kvs : List (PyData × PyData)} (h : Opd K F H x (.dict kvs)) : ∃ p, x = .ref p := by
  rcases h with h | ⟨_, _, _, _, e, _⟩ | ⟨p, ps, es, e1, e, h1, h2⟩
  · cases h <;> exact ⟨_, rfl⟩
  · cases e
  · exact ⟨p, e1⟩
theorem opd_dict {kvs : List (PyData × PyData)} (s : Same F H) (h : Opd K F H x (.dict kvs)) (hq : fnQ kvs = false) : ∃ p ps, x = .ref p ∧ Rd H p (.dK ps) ∧ DqKV K F ps kvs := by
  rcases h with h | ⟨_, _, _, _, e, _⟩ | ⟨p, ps, es, e1, e, h1, h2⟩
  · cases h with
    | dct h1 h2 => exact ⟨_, _, rfl, rdMono s h1, h2⟩
    | fnc h1 => cases hq
  · cases e
  · cases e
    exact ⟨p, ps, e1, .inl h1, h2⟩
theorem shaped_nd {d : PyData} (h : SeqAt.shaped d = true) : d.hasDict = false := by
  unfold SeqAt.shaped at h
  rw [Bool.and_eq_true] at h
  first | exact PyData.hasDict_of_canLay d h.1 | exact PyData.hasDict_of_canLay d h.2
theorem opd_dq (s : Same F H) (h : Opd K F H x d) : Dq K H x d := by
  rcases h with h | ⟨p, vs, es, rfl, rfl, h1, h2⟩ | ⟨p, ps, es, rfl, rfl, h1, h2⟩
  · exact dpMono s d h
  · exact .lst (.inl (.inl h1)) (dpAllMono s _ h2)
  · exact .dct (.inl h1) (dpKVMono s _ h2)
theorem opd_tru (s : Same F H) (h : Opd K F H x d) {t : Bool} (e : truD d = some t) : TruV K x H t := by
  cases d with
  | none =>
    rw [opd_none h]
    exact (Option.some.inj e).symm
  | bool b =>
    rw [opd_bool h]
    exact (Option.some.inj e).symm
  | int i =>
    rw [opd_int h]
    exact (Option.some.inj e).symm
  | str z =>
    rw [opd_str h]
    simp only [truD] at e
    split at e
    · rename_i hz
      refine ⟨hz, ?_⟩
      rw [← Option.some.inj e]
      by_cases h0 : z.length = 0
      · rw [h0]
        rfl
      · have h1 : ((z.length : Nat) : Int) ≠ 0 := by omega
        rw [bne_iff_ne.mpr h0, bne_iff_ne.mpr h1]
    · cases e
  | list ds =>
    obtain ⟨p, vs, rfl, hr, q⟩ := opd_list s h
    refine .inl ⟨vs, hr.sql, ?_⟩
    have hl := dpAll_len q
    rw [← Option.some.inj e]
    cases vs <;> cases ds <;> first | rfl | (simp at hl)
  | tuple ds =>
    obtain ⟨p, vs, rfl, hr, q⟩ := opd_tup s h
    refine .inr (.inl ⟨vs, hr, ?_⟩)
    have hl := dpAll_len q
    rw [← Option.some.inj e]
    cases vs <;> cases ds <;> first | rfl | (simp at hl)
  | dict kvs => cases e
end
section
variable {X : Cx} {pins : List (Addr × Obj)} {σ : L2.St} {H F : Hp} {s : Shared}
/-- list + list -/
def rCatR (K : PySem.W.Frag) : R2 := fun x y H Q => ∃ l b xs zs, x = .ref l ∧ y = .ref b ∧ RdL K H l xs ∧ RdL K H b zs ∧ xs.length + zs.length ≤ sizeLine ∧ ∀ p, H p = none → Q (.ref p) (upd H p (.lst (xs ++ zs)))
theorem op_catR : OpR X (binaryOp .Add) (rCatR X.K) := by
  intro pins s σ H x y v u Q I rx ry h
  obtain ⟨l, b, xs, zs, rfl, rfl, h1, h2, hz, q⟩ := h
  cases rx
  cases ry
  obtain ⟨_, its, n, r, hl, e⟩ := Inv.rdL I h1
  obtain ⟨_, its2, n2, r2, hl2, e2⟩ := Inv.rdL I h2
  refine PySem.P.add_list e e2 ?_ (by rw [List.size_toArray, List.size_toArray]; omega)
  rw [show its.toArray ++ its2.toArray = (its ++ its2).toArray by simp]
  exact ⟨.ref _, _, Inv.lnew (t' := s.toks) I (r.append r2) (by rw [List.length_append]; omega), rfl, q _ (Inv.fresh I)⟩
theorem str_len (x y : Str) : x.length + y.length ≤ sizeLine → x.length + y.length ≤ sizeLine := id
/-- an operation of two places, by what binD tells -/
def qBin (K : PySem.W.Frag) (op : Operator) : R2 := fun x y H Q => ∃ F a b r, Same F H ∧ Opd K F H x a ∧ Opd K F H y b ∧ binD op a b = some r ∧ Made K H F r Q
theorem op_bin (op : Operator) : OpR X (binaryOp op) (qBin X.K op) := by
  intro pins s σ H x y v u Q I rx ry h
  obtain ⟨F, a, b, r, sm, oa, ob, e, m⟩ := h
  unfold binD at e
  split at e
  · cases e
    cases opd_int oa
    cases opd_int ob
    exact op_add pins s σ H _ _ v u Q I rx ry ⟨_, _, rfl, rfl, m.v sm (.int _)⟩
  · cases e
    cases opd_int oa
    cases opd_int ob
    exact op_sub pins s σ H _ _ v u Q I rx ry ⟨_, _, rfl, rfl, m.v sm (.int _)⟩
  · split at e
    · rename_i hc
      cases e
      cases opd_int oa
      cases opd_int ob
      exact op_mulW pins s σ H _ _ v u Q I rx ry ⟨_, _, rfl, rfl, hc, m.v sm (.int _)⟩
    · cases e
  · split at e
    · rename_i hc
      cases e
      cases opd_int oa
      cases opd_int ob
      exact op_fdivW pins s σ H _ _ v u Q I rx ry ⟨_, _, rfl, rfl, hc, m.v sm (.int _)⟩
    · split at e
      · rename_i hc
        cases e
        cases opd_int oa
        cases opd_int ob
        exact op_fdivM pins s σ H _ _ v u Q I rx ry ⟨_, _, rfl, rfl, hc, m.v sm (.int _)⟩
      · cases e
  · split at e
    · rename_i hc
      cases e
      cases opd_int oa
      cases opd_int ob
      exact op_mod pins s σ H _ _ v u Q I rx ry ⟨_, _, rfl, rfl, hc, m.v sm (.int _)⟩
    · split at e
      · rename_i hc
        cases e
        cases opd_int oa
        cases opd_int ob
        exact op_modN pins s σ H _ _ v u Q I rx ry ⟨_, _, rfl, rfl, hc, m.v sm (.int _)⟩
      · cases e
  · split at e
    · rename_i i j hc
      cases e
      cases opd_int oa
      cases opd_int ob
      obtain ⟨rfl, hc⟩ := hc
      have hc := And.intro trivial hc
      exact op_oneShl pins s σ H _ _ v u Q I rx ry ⟨_, rfl, by rw [Int.toNat_of_nonneg hc.2.1], by
        have h3 := hc.2.2
        by_cases z : j.natAbs = 0
        · omega
        · have := (Nat.log2_lt z).mp h3
          omega, m.v sm (.int _)⟩
    · cases e
  · split at e
    · rename_i hc
      cases e
      cases opd_int oa
      cases opd_int ob
      exact op_pow pins s σ H _ _ v u Q I rx ry ⟨_, _, rfl, rfl, hc, m.v sm (.int _)⟩
    · cases e
  · split at e
    · rename_i hc
      cases e
      cases opd_str oa
      cases opd_str ob
      exact op_add_str pins s σ H _ _ v u Q I rx ry ⟨_, _, rfl, rfl, hc, m.v sm (.str _)⟩
    · cases e
  · split at e
    · rename_i hc
      cases e
      obtain ⟨p, vs, rfl, h1, q1⟩ := opd_list sm oa
      obtain ⟨p2, ws, rfl, h2, q2⟩ := opd_list sm ob
      exact op_catR pins s σ H _ _ v u Q I rx ry ⟨_, _, _, _, rfl, rfl, h1, h2, by rw [dpAll_len q1, dpAll_len q2]; exact hc, fun p hp => m.o sm (dpAll_app q1 q2) hp⟩
    · cases e
  · split at e
    · rename_i hc
      cases e
      obtain ⟨p, vs, rfl, h1, q1⟩ := opd_tup sm oa
      obtain ⟨p2, ws, rfl, h2, q2⟩ := opd_tup sm ob
      have l1 := dpAll_len q1
      have l2 := dpAll_len q2
      refine op_catA pins s σ H _ _ v u Q I rx ry ⟨_, _, _, _, rfl, rfl, h1, h2, by rw [l1, l2]; exact hc, fun z => ?_, fun z1 z2 => ?_, fun _ _ p hp => m.t sm (dpAll_app q1 q2) hp⟩
      · rw [z] at l1
        have z0 := List.eq_nil_of_length_eq_zero l1.symm
        rw [z0, List.nil_append] at m
        rcases ob with ob | ⟨_, _, _, _, e0, _⟩ | ⟨_, _, _, _, e0, _⟩
        · exact m.v sm ob
        · cases e0
        · cases e0
      · rw [z2] at l2
        have z0 := List.eq_nil_of_length_eq_zero l2.symm
        rw [z0, List.append_nil] at m
        rcases oa with oa | ⟨_, _, _, _, e0, _⟩ | ⟨_, _, _, _, e0, _⟩
        · exact m.v sm oa
        · cases e0
        · cases e0
    · cases e
  · split at e
    · rename_i hc
      cases e
      cases opd_int ob
      obtain ⟨p, vs, rfl, h1, q1⟩ := opd_list sm oa
      exact op_repR pins s σ H _ _ v u Q I rx ry ⟨_, _, _, rfl, rfl, h1, (log_rg (by decide) hc.1).1, (log_rg (by decide) hc.1).2, by rw [dpAll_len q1]; exact hc.2, fun p hp => m.o sm (dpAll_rep q1 _) hp⟩
    · cases e
  · split at e
    · rename_i xs k hc
      cases e
      cases opd_int ob
      have oa' := oa
      obtain ⟨p, vs, rfl, h1, q1⟩ := opd_tup sm oa
      have l1 := dpAll_len q1
      have dq : Dq X.K F (.ref p) (.tuple xs) := by
        rcases oa' with o' | ⟨_, _, _, _, e0, _⟩ | ⟨_, _, _, _, e0, _⟩
        · exact o'
        · cases e0
        · cases e0
      have hv : vs = [] → xs = [] := fun z => by
        rw [z] at l1
        exact List.eq_nil_of_length_eq_zero l1.symm
      by_cases h2 : 2 ≤ k ∧ vs ≠ []
      · exact op_repU pins s σ H _ _ v u Q I rx ry ⟨_, _, _, rfl, rfl, h1, h2.2, h2.1, by rw [l1]; exact hc.2, fun p hp => m.t sm (dpAll_rep q1 _) hp⟩
      · have h3 : vs = [] ∨ k ≤ 1 := by
          by_cases z : vs = []
          · exact .inl z
          · refine .inr ?_
            have : ¬ 2 ≤ k := fun y => h2 ⟨y, z⟩
            omega
        refine op_repS pins s σ H _ _ v u Q I rx ry ⟨_, _, _, rfl, rfl, h1, (log_rg (by decide) hc.1).1, (log_rg (by decide) hc.1).2, h3, fun z => ?_, fun z p hp => ?_⟩
        · have e2 : (List.replicate k.toNat xs).flatten = xs := by
            rcases z with z | z
            · rw [hv z]
              simp
            · rw [z]
              simp
          rw [e2] at m
          exact m.v sm dq
        · have e2 : (List.replicate k.toNat xs).flatten = [] := by
            have : k.toNat = 0 := by
              have : k ≠ 1 := fun y => z (.inr y)
              rcases h3 with y | y
              · exact absurd (.inl y) z
              · omega
            rw [this]
            rfl
          rw [e2] at m
          exact m.t sm .nil hp
    · cases e
  · cases e
/-! ### comparisons -/
def rInT (K : PySem.W.Frag) : R2 := fun x y H Q => ∃ d ds, Dp K H x d ∧ Dp K H y (.tuple ds) ∧ SeqAt.shaped d = true ∧ SeqAt.shaped (.tuple ds) = true ∧ Q (.bl (ds.any fun z => PyData.eqv z d)) H
def rNotInT (K : PySem.W.Frag) : R2 := fun x y H Q => ∃ d ds, Dp K H x d ∧ Dp K H y (.tuple ds) ∧ SeqAt.shaped d = true ∧ SeqAt.shaped (.tuple ds) = true ∧ Q (.bl (!ds.any fun z => PyData.eqv z d)) H
theorem op_inT (hu : X.A.units + 65 < cLine) : OpR X (compareOp .In) (rInT X.K) := by
  intro pins s σ H x y v u Q I rx ry h
  obtain ⟨d, ds, hd, he, sd, se, q⟩ := h
  obtain ⟨as, r1⟩ := Dp.reads I d x v hd rx
  obtain ⟨bs, r2⟩ := Dp.reads I (.tuple ds) y u he ry
  exact SeqAt.in_tuple_reads r2 r1 (SeqAt.canLay_of_shaped se) (SeqAt.canLay_of_shaped sd) (PyProof.Rows.room_in_shaped sd hu) ⟨.bl _, H, I, rfl, q⟩
theorem op_notInT (hu : X.A.units + 65 < cLine) : OpR X (compareOp .NotIn) (rNotInT X.K) := by
  intro pins s σ H x y v u Q I rx ry h
  obtain ⟨d, ds, hd, he, sd, se, q⟩ := h
  obtain ⟨as, r1⟩ := Dp.reads I d x v hd rx
  obtain ⟨bs, r2⟩ := Dp.reads I (.tuple ds) y u he ry
  exact SeqAt.notIn_tuple_reads r2 r1 (SeqAt.canLay_of_shaped se) (SeqAt.canLay_of_shaped sd) (PyProof.Rows.room_in_shaped sd hu) ⟨.bl _, H, I, rfl, q⟩
theorem emp_kv {K : PySem.W.Frag} {F : Hp} {ps : List (L2.Key × V)} {kvs : List (PyData × PyData)} (h : DqKV K F ps kvs) : ps.isEmpty = kvs.isEmpty := by
  cases h <;> rfl
def rEqE : R2 := fun x y H Q => ∃ a b ks, x = .ref a ∧ y = .ref b ∧ Rd H a (.dK ks) ∧ Rd H b (.dK []) ∧ Q (.bl ks.isEmpty) H
def rNeE : R2 := fun x y H Q => ∃ a b ks, x = .ref a ∧ y = .ref b ∧ Rd H a (.dK ks) ∧ Rd H b (.dK []) ∧ Q (.bl !ks.isEmpty) H
theorem emp_len {α β : Type} {a : List α} {b : List β} (h : a.length = b.length) (r : Bool) : (b.length == 0 && r) = (a.isEmpty && r) := by
  cases a <;> cases b <;> simp at h ⊢
theorem op_eqE (hu : X.A.units < cLine) : OpR X (compareOp .Eq) rEqE := by
  intro pins s σ H x y v u Q I rx ry h
  obtain ⟨a, b, ks, rfl, rfl, ea, eb, q⟩ := h
  obtain rfl : v = Value.ref a := rx
  obtain rfl : u = Value.ref b := ry
  obtain ⟨_, ya, va, ra, da⟩ := dk_rd I.hok ea
  obtain ⟨_, yb, vb, rb, db⟩ := dk_rd I.hok eb
  have hb : vb = [] := by
    have := rb.length
    exact List.eq_nil_of_length_eq_zero this.symm
  subst hb
  refine PySem.W.keq_eq (knd := mixKind X.prog X.w) (r := true) ya yb da db hu (fun z => ?_) (fin_bl I q ((emp_len ra.length true).trans (Bool.and_true _)).symm)
  obtain rfl := List.eq_nil_of_length_eq_zero z
  exact .nil
theorem op_neE (hu : X.A.units < cLine) : OpR X (compareOp .NotEq) rNeE := by
  intro pins s σ H x y v u Q I rx ry h
  obtain ⟨a, b, ks, rfl, rfl, ea, eb, q⟩ := h
  obtain rfl : v = Value.ref a := rx
  obtain rfl : u = Value.ref b := ry
  obtain ⟨_, ya, va, ra, da⟩ := dk_rd I.hok ea
  obtain ⟨_, yb, vb, rb, db⟩ := dk_rd I.hok eb
  have hb : vb = [] := by
    have := rb.length
    exact List.eq_nil_of_length_eq_zero this.symm
  subst hb
  refine PySem.W.keq_ne (knd := mixKind X.prog X.w) (r := true) ya yb da db hu (fun z => ?_) (fin_bl I q (congrArg (! ·) ((emp_len ra.length true).trans (Bool.and_true _)).symm))
  obtain rfl := List.eq_nil_of_length_eq_zero z
  exact .nil
/-- a sequence against the empty one -/
def rEqL (K : PySem.W.Frag) : R2 := fun x y H Q => ∃ a b vs, x = .ref a ∧ y = .ref b ∧ SqL K H a vs ∧ SqL K H b [] ∧ Q (.bl vs.isEmpty) H
def rNeL (K : PySem.W.Frag) : R2 := fun x y H Q => ∃ a b vs, x = .ref a ∧ y = .ref b ∧ SqL K H a vs ∧ SqL K H b [] ∧ Q (.bl !vs.isEmpty) H
def rEqT (K : PySem.W.Frag) : R2 := fun x y H Q => ∃ a b vs, x = .ref a ∧ y = .ref b ∧ SqT K H a vs ∧ SqT K H b [] ∧ Q (.bl vs.isEmpty) H
def rNeT (K : PySem.W.Frag) : R2 := fun x y H Q => ∃ a b vs, x = .ref a ∧ y = .ref b ∧ SqT K H a vs ∧ SqT K H b [] ∧ Q (.bl !vs.isEmpty) H
theorem op_eqL (hu : X.A.units < cLine) : OpR X (compareOp .Eq) (rEqL X.K) := by
  intro pins s σ H x y v u Q I rx ry h
  obtain ⟨a, b, vs, rfl, rfl, ea, eb, q⟩ := h
  obtain rfl : v = Value.ref a := rx
  obtain rfl : u = Value.ref b := ry
  obtain ⟨us, r1, p1, _⟩ := I.list ea
  obtain ⟨ws, r2, p2, _⟩ := I.list eb
  cases r2
  cases r1 with
  | nil => exact SeqAt.RcAt.lists (e := fun _ => true) p1.isList p2.isList rfl hu (fun j h1 h2 => absurd h1 (by simp)) _ _ _ _ ⟨.bl true, H, I, rfl, q⟩
  | cons r3 r4 => exact SeqAt.RcAt.lists_lengths p1.isList p2.isList (by simp) hu _ _ _ _ ⟨.bl false, H, I, rfl, q⟩
theorem op_neL (hu : X.A.units < cLine) : OpR X (compareOp .NotEq) (rNeL X.K) := by
  intro pins s σ H x y v u Q I rx ry h
  obtain ⟨a, b, vs, rfl, rfl, ea, eb, q⟩ := h
  obtain rfl : v = Value.ref a := rx
  obtain rfl : u = Value.ref b := ry
  obtain ⟨us, r1, p1, _⟩ := I.list ea
  obtain ⟨ws, r2, p2, _⟩ := I.list eb
  cases r2
  cases r1 with
  | nil => exact SeqAt.RcNeAt.lists (e := fun _ => true) p1.isList p2.isList rfl hu (fun j h1 h2 => absurd h1 (by simp)) _ _ _ _ ⟨.bl false, H, I, rfl, q⟩
  | cons r3 r4 => exact SeqAt.RcNeAt.lists_lengths p1.isList p2.isList (by simp) hu _ _ _ _ ⟨.bl true, H, I, rfl, q⟩
theorem op_eqT (hu : X.A.units < cLine) : OpR X (compareOp .Eq) (rEqT X.K) := by
  intro pins s σ H x y v u Q I rx ry h
  obtain ⟨a, b, vs, rfl, rfl, ea, eb, q⟩ := h
  obtain rfl : v = Value.ref a := rx
  obtain rfl : u = Value.ref b := ry
  obtain ⟨us, r1, p1, _⟩ := I.tuple ea
  obtain ⟨ws, r2, p2, _⟩ := I.tuple eb
  cases r2
  cases r1 with
  | nil => exact SeqAt.RcAt.tuples (e := fun _ => true) p1 p2 hu (fun j h1 h2 => absurd h1 (by simp)) _ _ _ _ ⟨.bl true, H, I, rfl, q⟩
  | cons r3 r4 => exact SeqAt.RcAt.tuples (e := fun _ => true) p1 p2 hu (fun j h1 h2 => absurd h2 (by simp)) _ _ _ _ ⟨.bl false, H, I, rfl, q⟩
theorem op_neT (hu : X.A.units < cLine) : OpR X (compareOp .NotEq) (rNeT X.K) := by
  intro pins s σ H x y v u Q I rx ry h
  obtain ⟨a, b, vs, rfl, rfl, ea, eb, q⟩ := h
  obtain rfl : v = Value.ref a := rx
  obtain rfl : u = Value.ref b := ry
  obtain ⟨us, r1, p1, _⟩ := I.tuple ea
  obtain ⟨ws, r2, p2, _⟩ := I.tuple eb
  cases r2
  cases r1 with
  | nil => exact SeqAt.RcNeAt.tuples (e := fun _ => true) p1 p2 hu (fun j h1 h2 => absurd h1 (by simp)) _ _ _ _ ⟨.bl false, H, I, rfl, q⟩
  | cons r3 r4 => exact SeqAt.RcNeAt.tuples (e := fun _ => true) p1 p2 hu (fun j h1 h2 => absurd h2 (by simp)) _ _ _ _ ⟨.bl true, H, I, rfl, q⟩
theorem emp_all {K : PySem.W.Frag} {F : Hp} {vs : List V} {ds : List PyData} (h : DqAll K F vs ds) : vs.isEmpty = ds.isEmpty := by
  cases h <;> rfl
theorem lex_at (ns ms : List Int) : ∀ (k i : Nat), i + k = min ns.length ms.length → Ob.lexAt (fun j => decide (ns.getD j 0 = ms.getD j 0)) (fun j => decide (ns.getD j 0 < ms.getD j 0)) (decide (ns.length < ms.length)) i k = lexI (ns.drop i) (ms.drop i)
  | 0, i, h => by
    rw [Ob.lexAt_zero]
    by_cases hl : ns.length ≤ ms.length
    · have hi : i = ns.length := by omega
      rw [hi, List.drop_length]
      by_cases h2 : ns.length < ms.length
      · rw [decide_eq_true h2]
        cases e : ms.drop ns.length with
        | nil =>
          have := congrArg List.length e
          rw [List.length_drop, List.length_nil] at this
          omega
        | cons a b => rfl
      · rw [decide_eq_false h2, List.drop_eq_nil_of_le (by omega)]
        rfl
    · have hi : i = ms.length := by omega
      rw [hi, List.drop_length, decide_eq_false (by omega)]
      cases e : ns.drop ms.length with
      | nil =>
        have := congrArg List.length e
        rw [List.length_drop, List.length_nil] at this
        omega
      | cons a b => rfl
  | k + 1, i, h => by
    have h1 : i < ns.length := by omega
    have h2 : i < ms.length := by omega
    rw [Ob.lexAt_succ, lex_at ns ms k (i + 1) (by omega), List.drop_eq_getElem_cons h1, List.drop_eq_getElem_cons h2]
    have g1 : ns.getD i 0 = ns[i] := by rw [List.getD_eq_getElem?_getD, List.getElem?_eq_getElem h1]; rfl
    have g2 : ms.getD i 0 = ms[i] := by rw [List.getD_eq_getElem?_getD, List.getElem?_eq_getElem h2]; rfl
    simp only [g1, g2, decide_eq_true_eq, lexI]
theorem dq_intsD {K : PySem.W.Frag} {F : Hp} : ∀ {es : List PyData} {is : List Int} {vs : List V}, intsD es = some is → DqAll K F vs es → vs = is.map V.int
  | [], is, vs, h, q => by
    cases q
    cases h
    rfl
  | d :: r, is, vs, h, q => by
    cases q with
    | cons a b =>
      cases d with
      | int i =>
        unfold intsD at h
        cases e2 : intsD r with
        | none =>
          rw [e2] at h
          cases h
        | some js =>
          rw [e2] at h
          cases h
          cases a
          rw [dq_intsD e2 b]
          rfl
      | _ => cases h
def rLtT (K : PySem.W.Frag) : R2 := fun x y H Q => ∃ (a b : Addr) (ns ms : List Int), x = .ref a ∧ y = .ref b ∧ SqT K H a (ns.map V.int) ∧ SqT K H b (ms.map V.int) ∧ Q (.bl (lexI ns ms)) H
theorem op_ltT (hu : X.A.units < cLine) : OpR X (compareOp .Lt) (rLtT X.K) := by
  intro pins s σ H x y v u Q I rx ry h
  obtain ⟨a, b, ns, ms, rfl, rfl, ha, hb, q⟩ := h
  cases rx
  cases ry
  obtain ⟨its, r1, p1, _⟩ := I.tuple ha
  obtain ⟨its2, r2, p2, _⟩ := I.tuple hb
  have i1 : IntsAre its ns := Vals.ints r1
  have i2 : IntsAre its2 ms := Vals.ints r2
  have e1 : its.toArray.size = ns.length := by rw [List.size_toArray]; exact i1.length
  have e2 : its2.toArray.size = ms.length := by rw [List.size_toArray]; exact i2.length
  have at1 : ∀ j (h1 : j < its.toArray.size), ∃ t, its.toArray[j] = .int (ns.getD j 0) t := fun j h1 => PyProof.Rows.IntsAre.int_at i1 _ _ (by simp at h1; simp [h1])
  have at2 : ∀ j (h1 : j < its2.toArray.size), ∃ t, its2.toArray[j] = .int (ms.getD j 0) t := fun j h1 => PyProof.Rows.IntsAre.int_at i2 _ _ (by simp at h1; simp [h1])
  have R := Ob.RcOp.tuples_lt (A := X.A) (s := s) (e := fun j => decide (ns.getD j 0 = ms.getD j 0)) (r := fun j => decide (ns.getD j 0 < ms.getD j 0)) p1 p2 hu (fun j h1 h2 => by
    obtain ⟨t, et⟩ := at1 j h1
    obtain ⟨t', et'⟩ := at2 j h2
    rw [et, et']
    have z : (ns.getD j 0 == ms.getD j 0) = decide (ns.getD j 0 = ms.getD j 0) := by
      by_cases q : ns.getD j 0 = ms.getD j 0
      · rw [decide_eq_true q]; exact beq_iff_eq.mpr q
      · rw [decide_eq_false q]; exact beq_eq_false_iff_ne.mpr q
    rw [← z]
    exact SeqAt.EqAt.int_int _ _ _ _) (fun j h1 h2 _ => by
    obtain ⟨t, et⟩ := at1 j h1
    obtain ⟨t', et'⟩ := at2 j h2
    rw [et, et']
    exact Ob.RcOp.lt_int _ _ _ _)
  rw [e1, e2, lex_at ns ms _ 0 (Nat.zero_add _)] at R
  exact R _ _ _ _ ⟨.bl _, H, I, rfl, q⟩
def qCmp (K : PySem.W.Frag) (op : CmpOp) : R2 := fun x y H Q => ∃ F a b r, Same F H ∧ Opd K F H x a ∧ Opd K F H y b ∧ cmpD op a b = some r ∧ Q (.bl r) H
theorem op_cmp (hu : X.A.units + 65 < cLine) (op : CmpOp) : OpR X (compareOp op) (qCmp X.K op) := by
  intro pins s σ H x y v u Q I rx ry h
  obtain ⟨F, a, b, r, sm, oa, ob, e, q⟩ := h
  have da := fun z => Dq.dp _ (shaped_nd z) (opd_dq sm oa)
  have db := fun z => Dq.dp _ (shaped_nd z) (opd_dq sm ob)
  cases op with
  | Eq =>
    unfold cmpD at e
    simp only at e
    split at e
    · rename_i hc
      cases e
      exact op_eqD (by omega) pins s σ H _ _ v u Q I rx ry ⟨_, _, da hc.1, db hc.2, hc.1, hc.2, q⟩
    · split at e
      · split at e
        · cases e
        rename_i hq
        cases e
        obtain ⟨p1, ps1, rfl, h1, k1⟩ := opd_dict sm oa (by simpa using hq)
        obtain ⟨p2, ps2, rfl, h2, k2⟩ := opd_dict sm ob rfl
        cases k2
        refine op_eqE (by omega) pins s σ H _ _ v u Q I rx ry ⟨_, _, _, rfl, rfl, h1, h2, ?_⟩
        have : ps1.isEmpty = _ := emp_kv k1
        rw [this]
        exact q
      · cases e
        obtain ⟨p1, vs1, rfl, h1, k1⟩ := opd_list sm oa
        obtain ⟨p2, vs2, rfl, h2, k2⟩ := opd_list sm ob
        cases k2
        refine op_eqL (by omega) pins s σ H _ _ v u Q I rx ry ⟨_, _, _, rfl, rfl, h1.sql, h2.sql, ?_⟩
        rw [emp_all k1]
        exact q
      · cases e
        obtain ⟨p1, vs1, rfl, h1, k1⟩ := opd_tup sm oa
        obtain ⟨p2, vs2, rfl, h2, k2⟩ := opd_tup sm ob
        cases k2
        refine op_eqT (by omega) pins s σ H _ _ v u Q I rx ry ⟨_, _, _, rfl, rfl, h1, h2, ?_⟩
        rw [emp_all k1]
        exact q
      · cases e
        cases opd_str oa
        cases opd_str ob
        refine op_eq pins s σ H _ _ v u Q I rx ry ⟨rfl, ?_⟩
        have dd : ∀ x y : Str, decide (V.str x = V.str y) = decide (x = y) := fun x y => decide_eq_decide.mpr ⟨fun z => by cases z; rfl, fun z => by rw [z]⟩
        rw [dd]
        exact q
      · split at e
        · cases e
        rename_i hq
        cases e
        obtain ⟨p1, ps1, rfl, h1, k1⟩ := opd_dict sm oa (by simpa using hq)
        cases opd_str ob
        exact op_eqS (by omega) pins s σ H _ _ v u Q I rx ry ⟨_, _, rfl, rfl, .inr (.inr ⟨_, h1⟩), q⟩
      · cases e
        obtain ⟨p1, vs1, rfl, h1, k1⟩ := opd_list sm oa
        cases opd_str ob
        exact op_eqS (by omega) pins s σ H _ _ v u Q I rx ry ⟨_, _, rfl, rfl, .inl ⟨_, h1.sql⟩, q⟩
      · cases e
        obtain ⟨p1, vs1, rfl, h1, k1⟩ := opd_tup sm oa
        cases opd_str ob
        exact op_eqS (by omega) pins s σ H _ _ v u Q I rx ry ⟨_, _, rfl, rfl, .inr (.inl ⟨_, h1⟩), q⟩
      · cases e
  | NotEq =>
    unfold cmpD at e
    simp only at e
    split at e
    · rename_i hc
      cases e
      exact op_neD (by omega) pins s σ H _ _ v u Q I rx ry ⟨_, _, da hc.1, db hc.2, hc.1, hc.2, q⟩
    · split at e
      · split at e
        · cases e
        rename_i hq
        cases e
        obtain ⟨p1, ps1, rfl, h1, k1⟩ := opd_dict sm oa (by simpa using hq)
        obtain ⟨p2, ps2, rfl, h2, k2⟩ := opd_dict sm ob rfl
        cases k2
        refine op_neE (by omega) pins s σ H _ _ v u Q I rx ry ⟨_, _, _, rfl, rfl, h1, h2, ?_⟩
        have : ps1.isEmpty = _ := emp_kv k1
        rw [this]
        exact q
      · cases e
        obtain ⟨p1, vs1, rfl, h1, k1⟩ := opd_list sm oa
        obtain ⟨p2, vs2, rfl, h2, k2⟩ := opd_list sm ob
        cases k2
        refine op_neL (by omega) pins s σ H _ _ v u Q I rx ry ⟨_, _, _, rfl, rfl, h1.sql, h2.sql, ?_⟩
        rw [emp_all k1]
        exact q
      · cases e
        obtain ⟨p1, vs1, rfl, h1, k1⟩ := opd_tup sm oa
        obtain ⟨p2, vs2, rfl, h2, k2⟩ := opd_tup sm ob
        cases k2
        refine op_neT (by omega) pins s σ H _ _ v u Q I rx ry ⟨_, _, _, rfl, rfl, h1, h2, ?_⟩
        rw [emp_all k1]
        exact q
      · cases e
        cases opd_str oa
        cases opd_str ob
        refine op_ne pins s σ H _ _ v u Q I rx ry ⟨rfl, ?_⟩
        have dd : ∀ x y : Str, decide (V.str x = V.str y) = decide (x = y) := fun x y => decide_eq_decide.mpr ⟨fun z => by cases z; rfl, fun z => by rw [z]⟩
        rw [dd]
        exact q
      · split at e
        · cases e
        rename_i hq
        cases e
        obtain ⟨p1, ps1, rfl, h1, k1⟩ := opd_dict sm oa (by simpa using hq)
        cases opd_str ob
        exact op_neS (by omega) pins s σ H _ _ v u Q I rx ry ⟨_, _, rfl, rfl, .inr (.inr ⟨_, h1⟩), q⟩
      · cases e
        obtain ⟨p1, vs1, rfl, h1, k1⟩ := opd_list sm oa
        cases opd_str ob
        exact op_neS (by omega) pins s σ H _ _ v u Q I rx ry ⟨_, _, rfl, rfl, .inl ⟨_, h1.sql⟩, q⟩
      · cases e
        obtain ⟨p1, vs1, rfl, h1, k1⟩ := opd_tup sm oa
        cases opd_str ob
        exact op_neS (by omega) pins s σ H _ _ v u Q I rx ry ⟨_, _, rfl, rfl, .inr (.inl ⟨_, h1⟩), q⟩
      · cases e
  | Lt =>
    unfold cmpD at e
    simp only at e
    split at e
    · cases e
      cases opd_int oa
      cases opd_int ob
      exact op_lt pins s σ H _ _ v u Q I rx ry ⟨_, _, rfl, rfl, q⟩
    · obtain ⟨is, e1, e⟩ := Option.bind_eq_some_iff.mp e
      obtain ⟨js, e2, e⟩ := Option.bind_eq_some_iff.mp e
      cases e
      have qa := opd_dq sm oa
      have qb := opd_dq sm ob
      cases qa with
      | tup h1 h2 =>
        cases qb with
        | tup g1 g2 =>
          have y1 := dq_intsD e1 h2
          have y2 := dq_intsD e2 g2
          subst y1
          subst y2
          exact op_ltT (by omega) pins s σ H _ _ v u Q I rx ry ⟨_, _, is, js, rfl, rfl, h1, g1, q⟩
    · cases e
  | LtE =>
    unfold cmpD at e
    simp only at e
    split at e
    · cases e
      cases opd_int oa
      cases opd_int ob
      exact op_le pins s σ H _ _ v u Q I rx ry ⟨_, _, rfl, rfl, q⟩
    · cases e
  | Gt =>
    unfold cmpD at e
    simp only at e
    split at e
    · cases e
      cases opd_int oa
      cases opd_int ob
      exact op_gt pins s σ H _ _ v u Q I rx ry ⟨_, _, rfl, rfl, q⟩
    · cases e
  | GtE =>
    unfold cmpD at e
    simp only at e
    split at e
    · cases e
      cases opd_int oa
      cases opd_int ob
      exact op_ge pins s σ H _ _ v u Q I rx ry ⟨_, _, rfl, rfl, q⟩
    · cases e
  | Is =>
    unfold cmpD at e
    simp only at e
    split at e
    · cases opd_none ob
      cases e
      refine op_isN pins s σ H _ _ v u Q I rx ry ⟨rfl, ?_⟩
      cases a with
      | none =>
        cases opd_none oa
        exact q
      | bool _ =>
        cases opd_bool oa
        exact q
      | int _ =>
        cases opd_int oa
        exact q
      | str _ =>
        cases opd_str oa
        exact q
      | list _ =>
        obtain ⟨p, vs, rfl, _⟩ := opd_list sm oa
        exact q
      | tuple _ =>
        obtain ⟨p, vs, rfl, _⟩ := opd_tup sm oa
        exact q
      | dict _ =>
        obtain ⟨p, rfl⟩ := opd_ref oa
        exact q
    · split at e
      · cases e
        cases opd_bool oa
        cases opd_bool ob
        exact op_isBl pins s σ H _ _ v u Q I rx ry ⟨_, _, rfl, rfl, q⟩
      · cases e
    · cases e
  | IsNot =>
    unfold cmpD at e
    simp only at e
    split at e
    · cases opd_none ob
      cases e
      refine op_notN pins s σ H _ _ v u Q I rx ry ⟨rfl, ?_⟩
      cases a with
      | none =>
        cases opd_none oa
        exact q
      | bool _ =>
        cases opd_bool oa
        exact q
      | int _ =>
        cases opd_int oa
        exact q
      | str _ =>
        cases opd_str oa
        exact q
      | list _ =>
        obtain ⟨p, vs, rfl, _⟩ := opd_list sm oa
        exact q
      | tuple _ =>
        obtain ⟨p, vs, rfl, _⟩ := opd_tup sm oa
        exact q
      | dict _ =>
        obtain ⟨p, rfl⟩ := opd_ref oa
        exact q
    · split at e
      · cases e
        cases opd_bool oa
        cases opd_bool ob
        exact op_notBl pins s σ H _ _ v u Q I rx ry ⟨_, _, rfl, rfl, q⟩
      · cases e
    · cases e
  | In =>
    unfold cmpD at e
    simp only at e
    split at e
    · split at e
      · rename_i hc
        cases e
        exact op_inD hu pins s σ H _ _ v u Q I rx ry ⟨_, _, da hc.1, db hc.2, hc.1, hc.2, q⟩
      · cases e
    · split at e
      · rename_i hc
        cases e
        exact op_inT hu pins s σ H _ _ v u Q I rx ry ⟨_, _, da hc.1, db hc.2, hc.1, hc.2, q⟩
      · cases e
    · cases e
  | NotIn =>
    unfold cmpD at e
    simp only at e
    split at e
    · split at e
      · rename_i hc
        cases e
        exact op_notInD hu pins s σ H _ _ v u Q I rx ry ⟨_, _, da hc.1, db hc.2, hc.1, hc.2, q⟩
      · cases e
    · split at e
      · rename_i hc
        cases e
        exact op_notInT hu pins s σ H _ _ v u Q I rx ry ⟨_, _, da hc.1, db hc.2, hc.1, hc.2, q⟩
      · cases e
    · cases e
/-! ### subscripts -/
theorem atI_len {α β : Type} {xs : List α} {ys : List β} (h : xs.length = ys.length) {i : Int} {y : β} (e : atI ys i = some y) : ∃ j, ixN xs.length i = some j ∧ ys[j]? = some y := by
  unfold atI at e
  rw [← h] at e
  cases q : ixN xs.length i with
  | none =>
    rw [q] at e
    cases e
  | some j =>
    rw [q] at e
    exact ⟨j, rfl, e⟩
theorem dpAll_at {K : PySem.W.Frag} {vs : List V} {ds : List PyData} {i : Int} {d : PyData} (q : DqAll K F vs ds) (e : atI ds i = some d) : ∃ v, atI vs i = some v ∧ Dq K F v d := by
  obtain ⟨j, e1, e2⟩ := atI_len (dpAll_len q) e
  obtain ⟨v, e3, q3⟩ := dpAll_get q e2
  refine ⟨v, ?_, q3⟩
  unfold atI
  rw [e1]
  exact e3
def qIx (K : PySem.W.Frag) : R2 := fun x y H Q => ∃ F a b r, Same F H ∧ Opd K F H x a ∧ Opd K F H y b ∧ ixD a b = some r ∧ ∀ v, Dq K F v r → Q v H
theorem ix_ok : IxR X (qIx X.K) := by
  intro value slice pins s σ H x y v u Q I rx ry h hs
  obtain ⟨F, a, b, r, sm, oa, ob, e, m⟩ := h
  unfold ixD at e
  split at e
  · cases opd_int ob
    obtain ⟨p, vs, rfl, h1, q1⟩ := opd_list sm oa
    obtain ⟨w, e1, q2⟩ := dpAll_at q1 e
    exact ix_list value slice pins s σ H _ _ v u Q I rx ry ⟨_, _, _, w, rfl, rfl, h1.sql, e1, m w q2⟩ hs
  · cases opd_int ob
    obtain ⟨p, vs, rfl, h1, q1⟩ := opd_tup sm oa
    obtain ⟨w, e1, q2⟩ := dpAll_at q1 e
    exact ix_tup value slice pins s σ H _ _ v u Q I rx ry ⟨_, _, _, w, rfl, rfl, h1, e1, m w q2⟩ hs
  · cases opd_int ob
    cases opd_str oa
    split at e
    · rename_i hz
      cases q : atI _ _ with
      | none =>
        rw [q] at e
        cases e
      | some c =>
        rw [q] at e
        cases e
        exact ix_str value slice pins s σ H _ _ v u Q I rx ry ⟨_, _, _, rfl, rfl, hz, q, m _ (.str _)⟩ hs
    · cases e
  · cases e
def qSl (K : PySem.W.Frag) : V → Option Int → Option Int → Hp → VK → Prop := fun x lo hi H Q => ∃ F a r, Same F H ∧ Opd K F H x a ∧ slD a lo hi = some r ∧ Made K H F r Q
theorem sl_ok : SlR X (qSl X.K) := by
  intro pins s σ H x v vl vu lo hi sl Q I rx hs pl pu h
  obtain ⟨F, a, r, sm, oa, e, m⟩ := h
  unfold slD at e
  split at e
  · cases e
    obtain ⟨p, vs, rfl, h1, q1⟩ := opd_list sm oa
    exact sl_list pins s σ H _ v vl vu lo hi sl Q I rx hs pl pu ⟨_, _, rfl, h1.sql, fun p hp => m.o sm (dpAll_cut lo hi q1) hp⟩
  · cases e
    obtain ⟨p, vs, rfl, h1, q1⟩ := opd_tup sm oa
    refine sl_tupA pins s σ H _ v vl vu lo hi sl Q I rx hs pl pu ⟨_, _, rfl, h1, fun z => ?_, fun _ p hp => m.t sm (dpAll_cut lo hi q1) hp⟩
    have hc : ∀ es : List PyData, vs.length = es.length → cutL es lo hi = es := fun es hl => by
      unfold cutL
      rw [← hl, z.1, z.2, List.drop_zero, Nat.sub_zero, hl]
      exact List.take_length
    rw [hc _ (dpAll_len q1)] at m
    rcases oa with oa | ⟨_, _, _, _, e0, _⟩ | ⟨_, _, _, _, e0, _⟩
    · exact m.v sm oa
    · cases e0
    · cases e0
  · cases e
end
end PF

/-! PF3d: a dict's entries; calls that take a dict. -/
namespace PF
open PySem PySem.Spec PyProof.Rows L2
section
variable {K : PySem.W.Frag} {F H : Hp}
theorem DqKV.len : ∀ {ps : List (L2.Key × V)} {kvs : List (PyData × PyData)}, DqKV K F ps kvs → ps.length = kvs.length
  | _, [], h => by
    cases h
    rfl
  | _, (y, e) :: r, h => by
    cases h with
    | cons _ _ h2 => rw [List.length_cons, List.length_cons, h2.len]
theorem DqKV.any {k : L2.Key} : ∀ {ps : List (L2.Key × V)} {kvs : List (PyData × PyData)}, DqKV K F ps kvs → (ps.any fun kv => decide (kv.1 = k)) = (kvs.any fun p => decide (keyD p.1 = some k))
  | _, [], h => by
    cases h
    rfl
  | _, (y, e) :: r, h => by
    cases h with
    | cons h0 _ h2 =>
      rw [List.any_cons, List.any_cons, h2.any]
      simp only [h0, Option.some.injEq]
theorem DqKV.app : ∀ {ps qs : List (L2.Key × V)} {kvs lvs : List (PyData × PyData)}, DqKV K F ps kvs → DqKV K F qs lvs → DqKV K F (ps ++ qs) (kvs ++ lvs)
  | _, _, [], _, h, h' => by
    cases h
    exact h'
  | _, _, (y, e) :: r, _, h, h' => by
    cases h with
    | cons h0 h1 h2 => exact .cons h0 h1 (h2.app h')
theorem DqKV.putM {k : L2.Key} {v : V} {d : PyData} (q : Dq K F v d) : ∀ {ps : List (L2.Key × V)} {kvs : List (PyData × PyData)}, DqKV K F ps kvs → DqKV K F (ps.map fun kv => if kv.1 = k then (kv.1, v) else kv) (kvs.map fun p => if keyD p.1 = some k then (p.1, d) else p)
  | _, [], h => by
    cases h
    exact .nil
  | _, (y, e) :: r, h => by
    cases h with
    | @cons k' x ps _ _ _ h0 h1 h2 =>
      rw [List.map_cons, List.map_cons]
      by_cases hk : k' = k
      · subst hk
        simp only [h0, if_true]
        exact .cons h0 q (h2.putM q)
      · have h3 : ¬ (some k' = some k) := fun z => hk (Option.some.inj z)
        simp only [h0, if_neg h3, if_neg hk]
        exact .cons h0 h1 (h2.putM q)
theorem DqKV.put {k : L2.Key} {y : PyData} {v : V} {d : PyData} (hk : keyD y = some k) (q : Dq K F v d) {ps : List (L2.Key × V)} {kvs : List (PyData × PyData)} (h : DqKV K F ps kvs) : DqKV K F (putK ps k v) (dput kvs y k d) := by
  unfold putK dput
  rw [h.any]
  split
  · exact h.putM q
  · exact h.app (.cons hk q .nil)
theorem DqKV.merge : ∀ {more : List (L2.Key × V)} {kmore : List (PyData × PyData)} {ps : List (L2.Key × V)} {kvs : List (PyData × PyData)}, DqKV K F more kmore → DqKV K F ps kvs → DqKV K F (mergeK ps more) (mergeD kvs kmore)
  | _, [], _, _, h, h' => by
    cases h
    exact h'
  | _, (y, e) :: r, _, _, h, h' => by
    cases h with
    | cons h0 h1 h2 =>
      unfold mergeK mergeD
      rw [List.foldl_cons, List.foldl_cons]
      simp only [h0]
      exact h2.merge (h'.put h0 h1)
theorem Made.w {p : Addr} {ps : List (L2.Key × V)} {kvs : List (PyData × PyData)} {Q : VK} (m : Made K H F (.w kvs) Q) (s : Same F H) (q : DqKV K F ps kvs) (hp : H p = none) : Q (.ref p) (upd H p (.dK ps)) := by
  have fp : F p = none := s.free hp
  refine m _ _ F (Same.refl _) (fun b o e => ?_) (fun b o e => ?_) (NFS.upd NL.dK) (fun _ h => .inl h) ⟨p, ps, rfl, hp, fp, upd_same, q⟩
  · rw [upd_ne (ne_of_none e fp)]
    exact s b o e
  · rw [upd_ne (ne_of_none e hp)]
    exact e
theorem key_dq {y : PyData} {k : L2.Key} (h : keyD y = some k) : Dq K F (kV k) y := by
  cases y <;> first | cases h | skip
  · exact .int _
  · exact .str _
theorem kv_keys : ∀ {ps : List (L2.Key × V)} {kvs : List (PyData × PyData)}, DqKV K F ps kvs → DqAll K F (ps.map fun kv => kV kv.1) (kvs.map (·.1))
  | _, [], h => by
    cases h
    exact .nil
  | _, (y, e) :: r, h => by
    cases h with
    | cons h0 _ h2 => exact .cons (key_dq h0) (kv_keys h2)
theorem kv_ints : ∀ {ps : List (L2.Key × V)} {kvs : List (PyData × PyData)} {ns : List Int}, DqKV K F ps kvs → intsD (kvs.map (·.1)) = some ns → ps.map (·.1) = ns.map Sum.inl
  | _, [], _, h, e => by
    cases h
    cases e
    rfl
  | _, (y, e0) :: r, ns, h, e => by
    cases h with
    | @cons k x ps _ _ _ h0 _ h2 =>
      cases y with
      | int i =>
        have e : intsD (.int i :: r.map (·.1)) = some ns := e
        unfold intsD at e
        cases e2 : intsD (r.map (·.1)) with
        | none =>
          rw [e2] at e
          cases e
        | some l =>
          rw [e2] at e
          cases e
          cases h0
          rw [List.map_cons, List.map_cons, kv_ints h2 e2]
      | _ => cases e
theorem prs_of : ∀ {xs : List PyData} {vs : List V} {kvs : List (PyData × PyData)}, DqAll K F vs xs → prsD xs = some kvs → Same F H → ∃ (as : List Addr) (ps : List (L2.Key × V)), vs = as.map V.ref ∧ Paired (fun p kv => SqT K H p [kV kv.1, kv.2]) as ps ∧ DqKV K F ps kvs
  | [], _, _, h, e, _ => by
    cases h
    cases e
    exact ⟨[], [], rfl, .nil, .nil⟩
  | .tuple [y, d] :: r, _, kvs, h, e, sm => by
    cases h with
    | cons h1 h2 =>
      unfold prsD at e
      obtain ⟨k, e1, e⟩ := Option.bind_eq_some_iff.mp e
      obtain ⟨l, e2, e⟩ := Option.bind_eq_some_iff.mp e
      cases e
      obtain ⟨as, ps, rfl, g1, g2⟩ := prs_of h2 e2 sm
      cases h1 with
      | @tup p ws _ t1 t2 =>
        cases t2 with
        | @cons x1 r1 _ _ q1 q2 =>
          cases q2 with
          | @cons x2 r2 _ _ q3 q4 =>
            cases q4
            have ex : x1 = kV k := by
              cases y <;> first | cases e1 | skip
              · cases q1
                rfl
              · cases q1
                rfl
            subst ex
            exact ⟨p :: as, (k, x2) :: ps, rfl, .cons (sqtMono sm t1) g1, .cons e1 q3 g2⟩
  | .tuple [] :: r, _, _, _, e, _ => by cases e
  | .tuple [_] :: r, _, _, _, e, _ => by cases e
  | .tuple (_ :: _ :: _ :: _) :: r, _, _, _, e, _ => by cases e
  | .none :: r, _, _, _, e, _ => by cases e
  | .bool _ :: r, _, _, _, e, _ => by cases e
  | .int _ :: r, _, _, _, e, _ => by cases e
  | .str _ :: r, _, _, _, e, _ => by cases e
  | .list _ :: r, _, _, _, e, _ => by cases e
  | .dict _ :: r, _, _, _, e, _ => by cases e
end
section
variable {X : Cx}
theorem call_lenR : CallR X (.builtin "len") (fun xs H Q => ∃ (a : Addr) (kvs : List (L2.Key × V)), xs = [V.ref a] ∧ Rd H a (.dK kvs) ∧ Q (.int kvs.length) H) := by
  intro pins s σ H xs us Q I r h
  obtain ⟨a, kvs, rfl, hd, q⟩ := h
  obtain ⟨u, rfl, rx⟩ := vals1 r
  obtain rfl : u = Value.ref a := rx
  exact d_len I hd fun t s' J => ⟨.int _, H, J, ⟨_, rfl⟩, q⟩
def encK : L2.Key → PyData
  | .inl i => .int i
  | .inr x => .str x
theorem enc_key {P : Program} {w : World} {h : Heap} (k : L2.Key) (key : Value) (e : (mixKind P w).is k key = true) : Reads h key (encK k) [] := by
  rcases keyIs_shape (show keyIs k key = true from e) with ⟨i, t, rfl, rfl⟩ | ⟨x, t, rfl, rfl⟩
  · exact .int i t
  · exact .str x t
theorem key_enc {y : PyData} {k : L2.Key} (h : keyD y = some k) : y = encK k := by
  cases y <;> first | cases h | skip
  · rfl
  · rfl
/-! readings in which no dict stands at sysModules: their texts -/
mutual
inductive Rz (h : Heap) : Value → PyData → Prop
  | non : Rz h .none .none
  | bl (k) : Rz h (.bool k) (.bool k)
  | int (n t) : Rz h (.int n t) (.int n)
  | str (z t) : Rz h (.str z t) (.str z)
  | lst {p ob its n ds} : h.get? p = some ob → ob.cls = .type "list" → ob.data = .seq its n → RzA h its.toList ds → Rz h (.ref p) (.list ds)
  | tup {p ob its n ds} : h.get? p = some ob → ob.cls = .type "tuple" → ob.data = .seq its n → RzA h its.toList ds → Rz h (.ref p) (.tuple ds)
  | dct {p ob es n kvs} : h.get? p = some ob → ob.cls = .type "dict" → ob.data = .dict es n → (p == sysModules) = false → RzE h es.toList kvs → Rz h (.ref p) (.dict kvs)
inductive RzA (h : Heap) : List Value → List PyData → Prop
  | nil : RzA h [] []
  | cons {u us d ds} : Rz h u d → RzA h us ds → RzA h (u :: us) (d :: ds)
inductive RzE (h : Heap) : List DictEntry → List (PyData × PyData) → Prop
  | nil : RzE h [] []
  | cons {e es y d r} : Reads h e.key y [] → Rz h e.val d → RzE h es r → RzE h (e :: es) ((y, d) :: r)
end
section
variable {h : Heap} {prog : Program} {w : World}
mutual
theorem Rz.reads : ∀ {u : Value} {d : PyData}, Rz h u d → ∃ as, Reads h u d as
  | _, _, .non => ⟨_, Reads.none⟩
  | _, _, .bl k => ⟨_, Reads.bool k⟩
  | _, _, .int n t => ⟨_, Reads.int n t⟩
  | _, _, .str z t => ⟨_, Reads.str z t⟩
  | _, _, .lst e1 e2 e3 q => let ⟨_, r⟩ := q.reads; ⟨_, Reads.list e1 e2 e3 r⟩
  | _, _, .tup e1 e2 e3 q => let ⟨_, r⟩ := q.reads; ⟨_, Reads.tuple e1 e2 e3 r⟩
  | _, _, .dct e1 e2 e3 _ q => let ⟨_, r1, r2⟩ := q.reads; ⟨_, Reads.dict e1 e2 e3 r1 r2⟩
theorem RzA.reads : ∀ {us : List Value} {ds : List PyData}, RzA h us ds → ∃ as, ReadsAll h us ds as
  | _, _, .nil => ⟨_, ReadsAll.nil⟩
  | _, _, .cons q r => let ⟨_, q1⟩ := q.reads; let ⟨_, r1⟩ := r.reads; ⟨_, ReadsAll.cons q1 r1⟩
theorem RzE.reads : ∀ {es : List DictEntry} {kvs : List (PyData × PyData)}, RzE h es kvs → ∃ bs, ReadsAll h (es.map (·.key)) (kvs.map (·.1)) [] ∧ ReadsAll h (es.map (·.val)) (kvs.map (·.2)) bs
  | _, _, .nil => ⟨_, ReadsAll.nil, ReadsAll.nil⟩
  | _, _, .cons k q r => let ⟨_, q1⟩ := q.reads; let ⟨_, r1, r2⟩ := r.reads; ⟨_, ReadsAll.cons k r1, ReadsAll.cons q1 r2⟩
end
theorem entries_more {as as' : List Addr} {d d' : Nat} (sub : ∀ c ∈ as, c ∈ as') (hd : d ≤ d') : ∀ {es : List DictEntry} {ts : List Str}, ReprEntriesK prog w as h d es ts → ReprEntriesK prog w as' h d' es ts
  | _, _, .nil => .nil
  | _, _, .cons a b r => .cons ((a.more sub).level_le hd) ((b.more sub).level_le hd) (entries_more sub hd r)
mutual
theorem Rz.text : ∀ {u : Value} {d : PyData}, Rz h u d → d.showable = true → d.shown.length ≤ sizeLine → ∃ bs, ReadAtMost h d.depth bs ∧ ReprK prog w bs h d.depth u d.shown
  | _, _, .non, a, b => ReprK.of_reads Reads.none a (fun _ => List.not_mem_nil) b
  | _, _, .bl k, a, b => ReprK.of_reads (Reads.bool k) a (fun _ => List.not_mem_nil) b
  | _, _, .int n t, a, b => ReprK.of_reads (Reads.int n t) a (fun _ => List.not_mem_nil) b
  | _, _, .str z t, a, b => ReprK.of_reads (Reads.str z t) a (fun _ => List.not_mem_nil) b
  | _, _, .lst (p := p) (its := its) (ds := ds) e1 e2 e3 q, a, b => by
    have full := Rz.lst e1 e2 e3 q
    obtain ⟨as, rd⟩ := full.reads
    have b' : (listText (PyData.shownAll ds)).length ≤ sizeLine := by simpa only [PyData.shown] using b
    obtain ⟨bs, k1, k2⟩ := q.text (by simpa [PyData.showable] using a) fun t ht => Nat.le_trans (listText_mem_le ht) b'
    have out : p ∉ bs := not_mem_of_deeper rd (by simp only [PyData.depth]; omega) k1
    refine ⟨p :: bs, k1.cons rd (by simp only [PyData.depth]; omega), ?_⟩
    simp only [PyData.depth, PyData.shown]
    obtain ⟨l⟩ := its
    cases l with
    | nil =>
      cases q
      simp only [PyData.shownAll, listText_nil]
      exact ReprK.listEmpty e1 e2 e3
    | cons z l => exact ReprK.list e1 e2 e3 out (by simpa using k2.length_eq) fun i y e => k2.item i y (by simpa using e)
  | _, _, .tup (p := p) (ds := ds) e1 e2 e3 q, a, b => by
    have full := Rz.tup e1 e2 e3 q
    obtain ⟨as, rd⟩ := full.reads
    have b' : (tupleText (PyData.shownAll ds)).length ≤ sizeLine := by simpa only [PyData.shown] using b
    obtain ⟨bs, k1, k2⟩ := q.text (by simpa [PyData.showable] using a) fun t ht => Nat.le_trans (tupleText_mem_le ht) b'
    have out : p ∉ bs := not_mem_of_deeper rd (by simp only [PyData.depth]; omega) k1
    refine ⟨p :: bs, k1.cons rd (by simp only [PyData.depth]; omega), ?_⟩
    simp only [PyData.depth, PyData.shown]
    exact ReprK.tuple e1 e2 e3 out k2
  | _, _, .dct (p := p) (es := es) (kvs := kvs) e1 e2 e3 e4 q, a, b => by
    have full := Rz.dct e1 e2 e3 e4 q
    obtain ⟨as, rd⟩ := full.reads
    have b' : (dictText (PyData.shownKv kvs)).length ≤ sizeLine := by simpa only [PyData.shown] using b
    obtain ⟨bs, k1, k2⟩ := q.text (by simpa [PyData.showable] using a) fun t ht => Nat.le_trans (dictText_mem_le ht) b'
    have out : p ∉ bs := not_mem_of_deeper rd (by simp only [PyData.depth]; omega) k1
    refine ⟨p :: bs, k1.cons rd (by simp only [PyData.depth]; omega), ?_⟩
    simp only [PyData.depth, PyData.shown]
    exact ReprK.dict e1 e2 e3 e4 out k2
theorem RzA.text : ∀ {us : List Value} {ds : List PyData}, RzA h us ds → PyData.showableAll ds = true → (∀ t ∈ PyData.shownAll ds, t.length ≤ sizeLine) → ∃ bs, ReadAtMost h (PyData.depthAll ds) bs ∧ ReprAllK prog w bs h (PyData.depthAll ds) us (PyData.shownAll ds)
  | _, _, .nil, _, _ => ⟨[], fun _ z => (by cases z), by simp only [PyData.shownAll]; exact .nil⟩
  | _, _, .cons (d := d) (ds := ds) q r, a, b => by
    have a' : d.showable = true ∧ PyData.showableAll ds = true := by simpa [PyData.showableAll] using a
    obtain ⟨b1, k1, k2⟩ := q.text a'.1 (b _ (by simp only [PyData.shownAll]; exact List.mem_cons_self ..))
    obtain ⟨b2, k3, k4⟩ := r.text a'.2 fun t ht => b t (by simp only [PyData.shownAll]; exact List.mem_cons_of_mem _ ht)
    refine ⟨b1 ++ b2, (k1.mono ?_).append (k3.mono ?_), ?_⟩
    · simp only [PyData.depthAll]; omega
    · simp only [PyData.depthAll]; omega
    · simp only [PyData.depthAll, PyData.shownAll]
      exact .cons ((k2.more fun c hc => List.mem_append_left _ hc).level_le (Nat.le_max_left _ _)) (k4.more_le (fun c hc => List.mem_append_right _ hc) (Nat.le_max_right _ _))
theorem RzE.text : ∀ {es : List DictEntry} {kvs : List (PyData × PyData)}, RzE h es kvs → PyData.showableKv kvs = true → (∀ t ∈ PyData.shownKv kvs, t.length ≤ sizeLine) → ∃ bs, ReadAtMost h (PyData.depthKv kvs) bs ∧ ReprEntriesK prog w bs h (PyData.depthKv kvs) es (PyData.shownKv kvs)
  | _, _, .nil, _, _ => ⟨[], fun _ z => (by cases z), by simp only [PyData.shownKv]; exact .nil⟩
  | _, _, .cons (y := y) (d := d) (r := r) k q z, a, b => by
    have a' : (y.showable = true ∧ d.showable = true) ∧ PyData.showableKv r = true := by simpa [PyData.showableKv] using a
    have hb := b (y.shown ++ ": " ++ d.shown) (by simp only [PyData.shownKv]; exact List.mem_cons_self ..)
    have hb2 : y.shown.length ≤ sizeLine ∧ d.shown.length ≤ sizeLine := by
      rw [strLen_append, strLen_append] at hb
      omega
    obtain ⟨b0, k5, k6⟩ := ReprK.of_reads (prog := prog) (w := w) k a'.1.1 (fun _ => List.not_mem_nil) hb2.1
    obtain ⟨b1, k1, k2⟩ := q.text a'.1.2 hb2.2
    obtain ⟨b2, k3, k4⟩ := z.text a'.2 fun t ht => b t (by simp only [PyData.shownKv]; exact List.mem_cons_of_mem _ ht)
    refine ⟨b0 ++ (b1 ++ b2), (k5.mono ?_).append ((k1.mono ?_).append (k3.mono ?_)), ?_⟩
    · simp only [PyData.depthKv]; omega
    · simp only [PyData.depthKv]; omega
    · simp only [PyData.depthKv]; omega
    · simp only [PyData.depthKv, PyData.shownKv]
      exact .cons ((k6.more fun c hc => List.mem_append_left _ hc).level_le (by omega)) ((k2.more fun c hc => List.mem_append_right _ (List.mem_append_left _ hc)).level_le (by omega)) (entries_more (fun c hc => List.mem_append_right _ (List.mem_append_right _ hc)) (by omega) k4)
end
variable {A : Around} {E : Value → Shared → Prop} {s : Shared} {Q : Value → Shared → Prop}
theorem Rz.call {p : Addr} {d : PyData} (r : Rz s.heap (.ref p) d) (a : d.showable = true) (b : d.shown.length ≤ sizeLine) (hg : A.guards = some []) (hu : A.units + (d.depth + 1) < cLine)
    (hQ : ∀ h' u tk, (∀ b o, s.heap.get? b = some o → h'.get? b = some o) → Q (.str d.shown u) { s with heap := h', toks := tk }) : wpAny (model prog w) A (call (.builtin "repr") [.ref p]) Q E s := by
  have full := r
  cases r with
  | lst e1 e2 e3 q =>
    rename_i ob its n ds
    obtain ⟨as, rd⟩ := full.reads
    have b' : (listText (PyData.shownAll ds)).length ≤ sizeLine := by simpa only [PyData.shown] using b
    obtain ⟨bs, k1, k2⟩ := q.text (prog := prog) (w := w) (by simpa [PyData.showable] using a) fun t ht => Nat.le_trans (listText_mem_le ht) b'
    have out : p ∉ bs := not_mem_of_deeper rd (by simp only [PyData.depth]; omega) k1
    simp only [PyData.depth] at hu
    simp only [PyData.shown] at hQ
    refine call_repr_slot (by omega) ⟨ob, e1, e2⟩ F.slot_list_repr.toG ?_
    obtain ⟨l⟩ := its
    cases l with
    | nil =>
      cases q
      simp only [PyData.shownAll, listText_nil] at hQ
      exact call_list_repr_empty ⟨ob, e1, e2⟩ e1 e3 ⟨_, _, rfl, hQ s.heap _ _ fun _ _ e => e⟩
    | cons z l => exact call_list_reprK e1 e2 e3 out (by simpa using k2.length_eq) (fun i y e => k2.item i y (by simpa using e)) hg (fun c _ => Clear.nil c) (by show A.units + 1 + _ < cLine; omega) (fun _ _ e => e) (fun h' u tk hk => ⟨_, _, rfl, hQ h' u tk hk⟩) b'
  | tup e1 e2 e3 q =>
    rename_i ob its n ds
    obtain ⟨as, rd⟩ := full.reads
    have b' : (tupleText (PyData.shownAll ds)).length ≤ sizeLine := by simpa only [PyData.shown] using b
    obtain ⟨bs, k1, k2⟩ := q.text (prog := prog) (w := w) (by simpa [PyData.showable] using a) fun t ht => Nat.le_trans (tupleText_mem_le ht) b'
    have out : p ∉ bs := not_mem_of_deeper rd (by simp only [PyData.depth]; omega) k1
    simp only [PyData.depth] at hu
    simp only [PyData.shown] at hQ
    refine call_repr_slot (by omega) ⟨ob, e1, e2⟩ F.slot_tuple_repr ?_
    exact call_tuple_reprK e1 e2 e3 out k2 hg (fun c _ => Clear.nil c) (by show A.units + 1 + _ < cLine; omega) (fun _ _ e => e) (fun h' u tk hk => ⟨_, _, rfl, hQ h' u tk hk⟩) b'
  | dct e1 e2 e3 e4 q =>
    rename_i ob es n kvs
    obtain ⟨as, rd⟩ := full.reads
    have b' : (dictText (PyData.shownKv kvs)).length ≤ sizeLine := by simpa only [PyData.shown] using b
    obtain ⟨bs, k1, k2⟩ := q.text (prog := prog) (w := w) (by simpa [PyData.showable] using a) fun t ht => Nat.le_trans (dictText_mem_le ht) b'
    have out : p ∉ bs := not_mem_of_deeper rd (by simp only [PyData.depth]; omega) k1
    simp only [PyData.depth] at hu
    simp only [PyData.shown] at hQ
    refine call_repr_slot (by omega) ⟨ob, e1, e2⟩ F.slot_dict_repr ?_
    exact call_dict_reprK e1 e2 e3 e4 out k2 hg (fun c _ => Clear.nil c) (by show A.units + 1 + _ < cLine; omega) (fun _ _ e => e) (fun h' u tk hk => ⟨_, _, rfl, hQ h' u tk hk⟩) b'
end
section
variable {X : Cx} {pins : List (Addr × Obj)} {σ : L2.St} {H : Hp} {s : Shared}
mutual
theorem dq_rz (I : L2.Inv X pins σ H s) : ∀ (d : PyData) (v : V) (u : Value), nol d = true → Dq X.K H v d → RelV v u → Rz s.heap u d
  | .none, _, _, _, q, r => by
    cases q
    cases r
    exact .non
  | .bool b, _, _, _, q, r => by
    cases q
    cases r
    exact .bl b
  | .int i, _, _, _, q, r => by
    cases q
    obtain ⟨t, rfl⟩ := r
    exact .int i t
  | .str x, _, _, _, q, r => by
    cases q
    obtain ⟨t, rfl⟩ := r
    exact .str x t
  | .list ds, _, _, z, q, r => by
    cases q with
    | lst hs ha =>
      cases r
      obtain ⟨its, rv, ⟨o, n, ho, hc, _, hd⟩, _⟩ := I.list hs.sql
      exact .lst ho hc hd (dq_rzA I ds _ its (by simpa [nol] using z) ha rv)
  | .tuple ds, _, _, z, q, r => by
    cases q with
    | tup hs ha =>
      cases r
      obtain ⟨its, rv, ⟨o, ho, hc, n, hd⟩, _⟩ := I.tuple hs
      exact .tup ho hc hd (dq_rzA I ds _ its (by simpa [nol] using z) ha rv)
  | .dict es, _, _, z, q, r => by
    cases q with
    | fnc _ => cases z
    | dct hs ha =>
      cases r
      obtain ⟨_, lo, vs, rel, o, ens, ep, ho, hx, hdat, _, hp, _⟩ := dk_rd I.hok hs
      have z' : (!fnQ es && nolK es) = true := z
      rw [Bool.and_eq_true] at z'
      exact .dct ho hx.1 hdat lo (dq_rzE I es _ vs ens.toList z'.2 ha rel hp)
theorem dq_rzA (I : L2.Inv X pins σ H s) : ∀ (ds : List PyData) (vs : List V) (us : List Value), nolA ds = true → DqAll X.K H vs ds → Vals vs us → RzA s.heap us ds
  | [], _, _, _, q, r => by
    cases q
    cases r
    exact .nil
  | d :: ds, _, _, z, q, r => by
    cases q with
    | cons h1 h2 =>
      cases r with
      | cons r1 r2 =>
        have z' : nol d = true ∧ nolA ds = true := by simpa [nolA] using z
        exact .cons (dq_rz I d _ _ z'.1 h1 r1) (dq_rzA I ds _ _ z'.2 h2 r2)
theorem dq_rzE (I : L2.Inv X pins σ H s) : ∀ (kvs : List (PyData × PyData)) (ps : List (L2.Key × V)) (vs : List (L2.Key × Value)) (es : List DictEntry), nolK kvs = true → DqKV X.K H ps kvs → KV ps vs → Pairs (mixKind X.prog X.w) es vs → RzE s.heap es kvs
  | [], _, _, _, _, q, r, m => by
    cases q
    cases r
    cases m
    exact .nil
  | (y, d) :: kvs, _, _, _, z, q, r, m => by
    cases q with
    | cons h0 h1 h2 =>
      cases r with
      | cons r1 r2 =>
        cases m with
        | cons m1 m2 m3 =>
          have z' : nol d = true ∧ nolK kvs = true := by simpa [nolK] using z
          obtain ⟨re, rv⟩ := r1
          have ey := key_enc h0
          subst ey
          rename_i kv l2 e2 es2
          obtain ⟨k', u'⟩ := kv
          cases re
          refine .cons ?_ ?_ (dq_rzE I kvs _ _ _ z'.2 h2 r2 m3)
          · exact enc_key _ _ m1
          · rw [m2]
            exact dq_rz I d _ _ z'.1 h1 rv
end
theorem call_reprQ {X : Cx} (hg : X.A.guards = some []) (hu : X.A.units + 65 < cLine) : CallR X (.builtin "repr") (fun xs H Q => ∃ p d, xs = [.ref p] ∧ Dq X.K H (.ref p) d ∧ PyData.showable d = true ∧ d.shown.length ≤ sizeLine ∧ nol d = true ∧ PyData.depth d ≤ 60 ∧ Q (.str d.shown) H) := by
  intro pins s σ H xs us Q I r h
  obtain ⟨p, d, rfl, hd, hs, hz, hh, hp, q⟩ := h
  obtain ⟨u, rfl, rx⟩ := vals1 r
  have rz := dq_rz I d _ u hh hd rx
  obtain rfl : u = Value.ref p := rx
  exact rz.call hs hz hg (by omega) fun h' u' tk k => ⟨.str d.shown, H, I.kept (t' := tk) k, ⟨_, rfl⟩, q⟩
end
end
end PF

/-! PF3b: built-in functions and methods on data. -/
namespace PF
open PySem PySem.Spec PyProof.Rows L2
def BF.val : BF → Value
  | .len => .builtin "len"
  | .abs => .builtin "abs"
  | .int => .type "int"
  | .max2 => .builtin "max"
  | .min2 => .builtin "min"
  | .max1 => .builtin "max"
  | .min1 => .builtin "min"
  | .sum => .builtin "sum"
  | .all => .builtin "all"
  | .any => .builtin "any"
  | .repr => .builtin "repr"
  | .tuple => .type "tuple"
  | .list => .type "list"
  | .sorted => .builtin "sorted"
  | .divmod => .builtin "divmod"
  | .dict => .type "dict"
  | .str => .type "str"
def BF.nm : BF → Str
  | .len => "len"
  | .abs => "abs"
  | .int => "int"
  | .max2 => "max"
  | .min2 => "min"
  | .max1 => "max"
  | .min1 => "min"
  | .sum => "sum"
  | .all => "all"
  | .any => "any"
  | .repr => "repr"
  | .tuple => "tuple"
  | .list => "list"
  | .sorted => "sorted"
  | .divmod => "divmod"
  | .dict => "dict"
  | .str => "str"
def MT.nm : MT → Str
  | .append => "append"
  | .pop => "pop"
  | .insert => "insert"
  | .extend => "extend"
def MT.id : MT → String
  | .append => "list.append"
  | .pop => "list.pop"
  | .insert => "list.insert"
  | .extend => "list.extend"
section
variable {K : PySem.W.Frag} {H F : Hp}
theorem opdAll_1 {xs : List V} {a : PyData} (h : Paired (Opd K F H) xs [a]) : ∃ x, xs = [x] ∧ Opd K F H x a := by
  cases h with
  | cons h1 h2 =>
    cases h2
    exact ⟨_, rfl, h1⟩
theorem opdAll_2 {xs : List V} {a b : PyData} (h : Paired (Opd K F H) xs [a, b]) : ∃ x y, xs = [x, y] ∧ Opd K F H x a ∧ Opd K F H y b := by
  cases h with
  | cons h1 h2 =>
    obtain ⟨y, rfl, h3⟩ := opdAll_1 h2
    exact ⟨_, _, rfl, h1, h3⟩
theorem ints_of : ∀ {ds : List PyData} {ns : List Int} {vs : List V}, intsD ds = some ns → DqAll K F vs ds → vs = ns.map V.int
  | [], _, _, e, q => by
    cases e
    cases q
    rfl
  | .int i :: ds, ns, _, e, q => by
    cases q with
    | cons q1 q2 =>
      unfold intsD at e
      cases e2 : intsD ds with
      | none =>
        rw [e2] at e
        cases e
      | some l =>
        rw [e2] at e
        cases e
        cases q1
        rw [ints_of e2 q2]
        rfl
  | .none :: ds, ns, _, e, q => by cases e
  | .bool _ :: ds, ns, _, e, q => by cases e
  | .str _ :: ds, ns, _, e, q => by cases e
  | .list _ :: ds, ns, _, e, q => by cases e
  | .tuple _ :: ds, ns, _, e, q => by cases e
  | .dict _ :: ds, ns, _, e, q => by cases e
end
section
variable {K : PySem.W.Frag} {H F : Hp}
theorem bools_of : ∀ {ds : List PyData} {ns : List Bool} {vs : List V}, boolsD ds = some ns → DqAll K F vs ds → vs = ns.map V.bl
  | [], _, _, e, q => by
    cases e
    cases q
    rfl
  | .bool i :: ds, ns, _, e, q => by
    cases q with
    | cons q1 q2 =>
      unfold boolsD at e
      obtain ⟨l, e2, e⟩ := Option.bind_eq_some_iff.mp e
      cases e
      cases q1
      rw [bools_of e2 q2]
      rfl
  | .none :: ds, ns, _, e, q => by cases e
  | .int _ :: ds, ns, _, e, q => by cases e
  | .str _ :: ds, ns, _, e, q => by cases e
  | .list _ :: ds, ns, _, e, q => by cases e
  | .tuple _ :: ds, ns, _, e, q => by cases e
  | .dict _ :: ds, ns, _, e, q => by cases e
theorem dqAll_ints (F : Hp) : ∀ ns : List Int, DqAll K F (ns.map V.int) (ns.map .int)
  | [] => .nil
  | i :: r => .cons (.int i) (dqAll_ints F r)
theorem foldl_max : ∀ (l : List Int) (a : Int), (l.foldl max a = a ∨ l.foldl max a ∈ l) ∧ a ≤ l.foldl max a ∧ ∀ y ∈ l, y ≤ l.foldl max a
  | [], a => ⟨.inl rfl, Int.le_refl _, fun y h => by cases h⟩
  | b :: r, a => by
    obtain ⟨h1, h2, h3⟩ := foldl_max r (max a b)
    rw [List.foldl_cons]
    refine ⟨?_, by omega, fun y hy => ?_⟩
    · rcases h1 with h | h
      · rw [h]
        rcases Int.le_total a b with z | z
        · rw [Int.max_eq_right z]
          exact .inr (List.mem_cons_self ..)
        · rw [Int.max_eq_left z]
          exact .inl rfl
      · exact .inr (List.mem_cons_of_mem _ h)
    · rcases List.mem_cons.mp hy with e | e
      · subst e
        omega
      · exact h3 y e
theorem foldl_min : ∀ (l : List Int) (a : Int), (l.foldl min a = a ∨ l.foldl min a ∈ l) ∧ l.foldl min a ≤ a ∧ ∀ y ∈ l, l.foldl min a ≤ y
  | [], a => ⟨.inl rfl, Int.le_refl _, fun y h => by cases h⟩
  | b :: r, a => by
    obtain ⟨h1, h2, h3⟩ := foldl_min r (min a b)
    rw [List.foldl_cons]
    refine ⟨?_, by omega, fun y hy => ?_⟩
    · rcases h1 with h | h
      · rw [h]
        rcases Int.le_total a b with z | z
        · rw [Int.min_eq_left z]
          exact .inl rfl
        · rw [Int.min_eq_right z]
          exact .inr (List.mem_cons_self ..)
      · exact .inr (List.mem_cons_of_mem _ h)
    · rcases List.mem_cons.mp hy with e | e
      · subst e
        omega
      · exact h3 y e
theorem maxI_is {l : List Int} {m : Int} (h : maxI l = some m) : 0 < l.length ∧ m ∈ l ∧ ∀ y ∈ l, y ≤ m := by
  cases l with
  | nil => cases h
  | cons a r =>
    cases h
    obtain ⟨h1, h2, h3⟩ := foldl_max r a
    refine ⟨Nat.succ_pos _, ?_, fun y hy => ?_⟩
    · rcases h1 with z | z
      · rw [z]
        exact List.mem_cons_self ..
      · exact List.mem_cons_of_mem _ z
    · rcases List.mem_cons.mp hy with e | e
      · subst e
        exact h2
      · exact h3 y e
theorem minI_is {l : List Int} {m : Int} (h : minI l = some m) : 0 < l.length ∧ m ∈ l ∧ ∀ y ∈ l, m ≤ y := by
  cases l with
  | nil => cases h
  | cons a r =>
    cases h
    obtain ⟨h1, h2, h3⟩ := foldl_min r a
    refine ⟨Nat.succ_pos _, ?_, fun y hy => ?_⟩
    · rcases h1 with z | z
      · rw [z]
        exact List.mem_cons_self ..
      · exact List.mem_cons_of_mem _ z
    · rcases List.mem_cons.mp hy with e | e
      · subst e
        exact h2
      · exact h3 y e
/-- a value that is a tuple of these ints -/
def TupQ (K : PySem.W.Frag) (F : Hp) (x : V) (t : List Int) : Prop := ∃ p, x = .ref p ∧ SqT K F p (t.map V.int)
theorem TupQ.dq {x : V} {t : List Int} (h : TupQ K F x t) : Dq K F x (.tuple (t.map .int)) := by
  obtain ⟨p, rfl, h⟩ := h
  exact .tup h (dqAll_ints F t)
theorem tupQ_of {x : V} {d : PyData} {t : List Int} (e : tupD d = some t) (q : Dq K F x d) : TupQ K F x t := by
  cases d with
  | tuple ds =>
    cases q with
    | tup h1 h2 =>
      have hv := ints_of e h2
      subst hv
      exact ⟨_, rfl, h1⟩
  | _ => cases e
/-- values that are tuples of these ints, one by one -/
inductive TupQs (K : PySem.W.Frag) (F : Hp) : List V → List (List Int) → Prop
  | nil : TupQs K F [] []
  | cons {x : V} {t : List Int} {xs : List V} {ts : List (List Int)} : TupQ K F x t → TupQs K F xs ts → TupQs K F (x :: xs) (t :: ts)
theorem tups_of : ∀ {ds : List PyData} {ts : List (List Int)} {vs : List V}, tupsD ds = some ts → DqAll K F vs ds → TupQs K F vs ts
  | [], _, _, e, q => by
    cases e
    cases q
    exact .nil
  | d :: ds, ts, _, e, q => by
    cases q with
    | cons q1 q2 =>
      unfold tupsD at e
      obtain ⟨t, e1, e⟩ := Option.bind_eq_some_iff.mp e
      obtain ⟨l, e2, e⟩ := Option.bind_eq_some_iff.mp e
      cases e
      exact .cons (tupQ_of e1 q1) (tups_of e2 q2)
theorem TupQs.len {vs : List V} {ts : List (List Int)} (h : TupQs K F vs ts) : vs.length = ts.length := by
  induction h with
  | nil => rfl
  | cons _ _ ih => rw [List.length_cons, List.length_cons, ih]
theorem TupQs.mem {vs : List V} {ts : List (List Int)} (h : TupQs K F vs ts) : ∀ x ∈ vs, ∃ t ∈ ts, TupQ K F x t := by
  induction h with
  | nil => exact fun x hx => by cases hx
  | cons a _ ih =>
    intro x hx
    rcases List.mem_cons.mp hx with e | e
    · subst e
      exact ⟨_, List.mem_cons_self .., a⟩
    · obtain ⟨t, ht, q⟩ := ih x e
      exact ⟨t, List.mem_cons_of_mem _ ht, q⟩
theorem TupQs.perm {vs ws : List V} (p : ws.Perm vs) : ∀ {ts : List (List Int)}, TupQs K F vs ts → ∃ us, TupQs K F ws us ∧ us.Perm ts := by
  induction p with
  | nil => exact fun h => ⟨_, h, List.Perm.refl _⟩
  | cons x _ ih =>
    intro ts h
    cases h with
    | cons a b =>
      obtain ⟨us, c, d⟩ := ih b
      exact ⟨_, .cons a c, d.cons _⟩
  | swap x y l =>
    intro ts h
    cases h with
    | cons a b =>
      cases b with
      | cons c d => exact ⟨_, .cons c (.cons a d), List.Perm.swap _ _ _⟩
  | trans _ _ ih1 ih2 =>
    intro ts h
    obtain ⟨us, a, b⟩ := ih2 h
    obtain ⟨ws, c, d⟩ := ih1 a
    exact ⟨ws, c, d.trans b⟩
theorem TupQs.dq {vs : List V} {ts : List (List Int)} (h : TupQs K F vs ts) : DqAll K F vs (ts.map fun t => .tuple (t.map .int)) := by
  induction h with
  | nil => exact .nil
  | cons a _ ih => exact .cons a.dq ih
theorem TupQs.pw {R : V → V → Prop} {S : List Int → List Int → Prop} (f : ∀ x y t u, TupQ K F x t → TupQ K F y u → R x y → S t u) {vs : List V} {ts : List (List Int)} (h : TupQs K F vs ts) : vs.Pairwise R → ts.Pairwise S := by
  induction h with
  | nil => exact fun _ => .nil
  | @cons x t xs ts a b ih =>
    intro w
    obtain ⟨w1, w2⟩ := List.pairwise_cons.mp w
    refine List.pairwise_cons.mpr ⟨fun u hu => ?_, ih w2⟩
    have : ∀ {xs : List V} {ts : List (List Int)}, TupQs K F xs ts → u ∈ ts → ∃ y ∈ xs, TupQ K F y u := by
      intro xs ts h
      induction h with
      | nil => exact fun h => by cases h
      | cons c _ ih2 =>
        intro h
        rcases List.mem_cons.mp h with e | e
        · subst e
          exact ⟨_, List.mem_cons_self .., c⟩
        · obtain ⟨y, hy, q⟩ := ih2 e
          exact ⟨y, List.mem_cons_of_mem _ hy, q⟩
    obtain ⟨y, hy, q⟩ := this b hu
    exact f x y t u a q (w1 y hy)
end
section
variable {X : Cx}
theorem call_reprD (hg : X.A.guards = some []) (hu : X.A.units + 65 < cLine) : CallR X (.builtin "repr") (fun xs H Q => ∃ x d, xs = [x] ∧ Dp X.K H x d ∧ PyData.showable d = true ∧ d.shown.length ≤ sizeLine ∧ d.hasDict = false ∧ PyData.depth d ≤ 60 ∧ Q (.str d.shown) H) := by
  intro pins s σ H xs us Q I r h
  obtain ⟨x, d, rfl, hd, hs, hz, hh, hp, q⟩ := h
  obtain ⟨u, rfl, rx⟩ := vals1 r
  obtain ⟨as, rd⟩ := Dp.reads I d x u hd rx
  have fin : ∀ h' u' tk, (∀ b o, s.heap.get? b = some o → h'.get? b = some o) → EP X pins σ Q (.str d.shown u') { s with heap := h', toks := tk } := fun h' u' tk k => ⟨.str d.shown, H, I.kept (t' := tk) k, ⟨_, rfl⟩, q⟩
  have fin0 : ∀ u' tk, EP X pins σ Q (.str d.shown u') { s with toks := tk } := fun u' tk => ⟨.str d.shown, H, I.tok tk, ⟨_, rfl⟩, q⟩
  cases hd with
  | non =>
    cases rx
    exact PySem.P.repr_of_none (fin0 _ _)
  | bl k =>
    cases rx
    exact PySem.P.repr_of_bool (fin0 _ _)
  | int i =>
    obtain ⟨t, rfl⟩ := rx
    exact PySem.P.repr_of_int (of_decide_eq_true hs) (fin0 _ _)
  | str z =>
    obtain ⟨t, rfl⟩ := rx
    exact PySem.P.repr_of_str (fin0 _ _) hz
  | lst h1 h2 =>
    cases rx
    exact repr_of_reads' rd hs (fun z => by rw [hh] at z; cases z) hg (by omega) (fun _ _ e => e) (fun h' u' tk k => fin h' u' tk k) hz
  | tup h1 h2 =>
    cases rx
    exact repr_of_reads' rd hs (fun z => by rw [hh] at z; cases z) hg (by omega) (fun _ _ e => e) (fun h' u' tk k => fin h' u' tk k) hz
def qFn (K : PySem.W.Frag) (f : BF) : List V → Hp → VK → Prop := fun xs H Q => ∃ F ds r, Same F H ∧ Paired (Opd K F H) xs ds ∧ fnD f ds = some r ∧ Made K H F r Q
theorem fn_ok (hc : X.calm = true) (hg : X.A.guards = some []) (hu : X.A.units + 65 < cLine) (f : BF) : CallR X f.val (qFn X.K f) := by
  intro pins s σ H xs us Q I r h
  obtain ⟨F, ds, res, sm, oa, e, m⟩ := h
  unfold fnD at e
  split at e
  · cases e
    obtain ⟨x, rfl, o⟩ := opdAll_1 oa
    obtain ⟨p, vs, rfl, h1, q1⟩ := opd_list sm o
    refine call_len_seq pins s σ H _ us Q I r ⟨_, _, rfl, .inl h1.sql, ?_⟩
    rw [dpAll_len q1]
    exact m.v sm (.int _)
  · cases e
    obtain ⟨x, rfl, o⟩ := opdAll_1 oa
    obtain ⟨p, vs, rfl, h1, q1⟩ := opd_tup sm o
    refine call_len_seq pins s σ H _ us Q I r ⟨_, _, rfl, .inr h1, ?_⟩
    rw [dpAll_len q1]
    exact m.v sm (.int _)
  · split at e
    · rename_i hz
      cases e
      obtain ⟨x, rfl, o⟩ := opdAll_1 oa
      cases opd_str o
      exact call_len_str pins s σ H _ us Q I r ⟨_, rfl, hz, m.v sm (.int _)⟩
    · cases e
  · cases e
    obtain ⟨x, rfl, o⟩ := opdAll_1 oa
    cases opd_int o
    exact call_abs pins s σ H _ us Q I r ⟨_, rfl, m.v sm (.int _)⟩
  · cases e
    obtain ⟨x, rfl, o⟩ := opdAll_1 oa
    cases opd_int o
    exact call_int1 pins s σ H _ us Q I r (.inl ⟨_, rfl, m.v sm (.int _)⟩)
  · cases e
    obtain ⟨x, rfl, o⟩ := opdAll_1 oa
    cases opd_bool o
    exact call_int1 pins s σ H _ us Q I r (.inr ⟨_, rfl, m.v sm (.int _)⟩)
  · cases e
    obtain ⟨x, y, rfl, o, o2⟩ := opdAll_2 oa
    cases opd_int o
    cases opd_int o2
    exact call_max2 hc pins s σ H _ us Q I r ⟨_, _, rfl, m.v sm (.int _)⟩
  · cases e
    obtain ⟨x, y, rfl, o, o2⟩ := opdAll_2 oa
    cases opd_int o
    cases opd_int o2
    exact call_min2 hc pins s σ H _ us Q I r ⟨_, _, rfl, m.v sm (.int _)⟩
  · cases e2 : intsD _ with
    | none =>
      rw [e2] at e
      cases e
    | some ns =>
      rw [e2] at e
      cases e
      obtain ⟨x, rfl, o⟩ := opdAll_1 oa
      obtain ⟨p, vs, rfl, h1, q1⟩ := opd_list sm o
      have hv := ints_of e2 q1
      subst hv
      exact cr_sum hc pins s σ H _ us Q I r ⟨_, _, rfl, h1.sql, m.v sm (.int _)⟩
  · split at e
    · rename_i d0 hz
      cases e
      obtain ⟨x, rfl, o⟩ := opdAll_1 oa
      by_cases hh : PyData.hasDict d0 = false
      · exact call_reprD hg hu pins s σ H _ us Q I r ⟨_, _, rfl, Dq.dp _ hh (opd_dq sm o), hz.1, hz.2.1, hh, hz.2.2.2, m.v sm (.str _)⟩
      · have hn := hz.2.2.1.resolve_left hh
        have od := opd_dq sm o
        have rf : ∃ p, x = .ref p := by
          cases od <;> first | exact ⟨_, rfl⟩ | exact absurd rfl hh
        obtain ⟨p, rfl⟩ := rf
        exact call_reprQ hg hu pins s σ H _ us Q I r ⟨_, _, rfl, od, hz.1, hz.2.1, hn, hz.2.2.2, m.v sm (.str _)⟩
    · cases e
  · cases e
    obtain ⟨x, rfl, o⟩ := opdAll_1 oa
    obtain ⟨p, vs, rfl, h1, q1⟩ := opd_list sm o
    exact call_tuple_of pins s σ H _ us Q I r ⟨_, _, rfl, .inl ⟨h1.sql, fun l hl => m.t sm q1 hl⟩⟩
  · cases e
    obtain ⟨x, rfl, o⟩ := opdAll_1 oa
    have o' := o
    obtain ⟨p, vs, rfl, h1, q1⟩ := opd_tup sm o
    refine call_tuple_of pins s σ H _ us Q I r ⟨_, _, rfl, .inr ⟨h1, ?_⟩⟩
    rcases o' with o' | ⟨_, _, _, _, e0, _⟩ | ⟨_, _, _, _, e0, _⟩
    · exact m.v sm o'
    · cases e0
    · cases e0
  · cases e
    obtain ⟨x, rfl, o⟩ := opdAll_1 oa
    obtain ⟨p, vs, rfl, h1, q1⟩ := opd_list sm o
    exact call_list_of pins s σ H _ us Q I r ⟨_, _, rfl, .inl h1.sql, fun l hl => m.o sm q1 hl⟩
  · cases e
    obtain ⟨x, rfl, o⟩ := opdAll_1 oa
    obtain ⟨p, vs, rfl, h1, q1⟩ := opd_tup sm o
    exact call_list_of pins s σ H _ us Q I r ⟨_, _, rfl, .inr h1, fun l hl => m.o sm q1 hl⟩
  · obtain ⟨ns, e2, e⟩ := Option.bind_eq_some_iff.mp e
    cases e
    obtain ⟨x, rfl, o⟩ := opdAll_1 oa
    obtain ⟨p, vs, rfl, h1, q1⟩ := opd_tup sm o
    have hv := ints_of e2 q1
    subst hv
    exact cr_sumT hc pins s σ H _ us Q I r ⟨_, _, rfl, h1, m.v sm (.int _)⟩
  · obtain ⟨ns, e2, e⟩ := Option.bind_eq_some_iff.mp e
    cases e
    obtain ⟨x, rfl, o⟩ := opdAll_1 oa
    obtain ⟨p, vs, rfl, h1, q1⟩ := opd_list sm o
    have hv := bools_of e2 q1
    subst hv
    exact cr_all hc pins s σ H _ us Q I r ⟨_, _, rfl, h1.sql, m.v sm (.bl _)⟩
  · obtain ⟨ns, e2, e⟩ := Option.bind_eq_some_iff.mp e
    cases e
    obtain ⟨x, rfl, o⟩ := opdAll_1 oa
    obtain ⟨p, vs, rfl, h1, q1⟩ := opd_list sm o
    have hv := bools_of e2 q1
    subst hv
    exact cr_any hc pins s σ H _ us Q I r ⟨_, _, rfl, h1.sql, m.v sm (.bl _)⟩
  · obtain ⟨ns, e2, e⟩ := Option.bind_eq_some_iff.mp e
    obtain ⟨mx, e3, e⟩ := Option.bind_eq_some_iff.mp e
    cases e
    obtain ⟨x, rfl, o⟩ := opdAll_1 oa
    obtain ⟨p, vs, rfl, h1, q1⟩ := opd_list sm o
    have hv := ints_of e2 q1
    subst hv
    obtain ⟨a1, a2, a3⟩ := maxI_is e3
    refine cr_max hc pins s σ H _ us Q I r ⟨_, _, rfl, h1.sql, a1, fun k hk hy => ?_⟩
    rw [Int.le_antisymm (a3 k hk) (hy mx a2)]
    exact m.v sm (.int _)
  · obtain ⟨ns, e2, e⟩ := Option.bind_eq_some_iff.mp e
    obtain ⟨mx, e3, e⟩ := Option.bind_eq_some_iff.mp e
    cases e
    obtain ⟨x, rfl, o⟩ := opdAll_1 oa
    obtain ⟨p, vs, rfl, h1, q1⟩ := opd_list sm o
    have hv := ints_of e2 q1
    subst hv
    obtain ⟨a1, a2, a3⟩ := minI_is e3
    refine cr_min hc pins s σ H _ us Q I r ⟨_, _, rfl, h1.sql, a1, fun k hk hy => ?_⟩
    rw [Int.le_antisymm (hy mx a2) (a3 k hk)]
    exact m.v sm (.int _)
  · obtain ⟨ns, e2, e⟩ := Option.bind_eq_some_iff.mp e
    obtain ⟨mx, e3, e⟩ := Option.bind_eq_some_iff.mp e
    cases e
    obtain ⟨x, rfl, o⟩ := opdAll_1 oa
    obtain ⟨p, vs, rfl, h1, q1⟩ := opd_tup sm o
    have hv := ints_of e2 q1
    subst hv
    obtain ⟨a1, a2, a3⟩ := maxI_is e3
    refine cr_maxT hc hu pins s σ H _ us Q I r ⟨_, _, rfl, h1, a1, fun k hk hy => ?_⟩
    rw [Int.le_antisymm (a3 k hk) (hy mx a2)]
    exact m.v sm (.int _)
  · obtain ⟨ns, e2, e⟩ := Option.bind_eq_some_iff.mp e
    obtain ⟨mx, e3, e⟩ := Option.bind_eq_some_iff.mp e
    cases e
    obtain ⟨x, rfl, o⟩ := opdAll_1 oa
    obtain ⟨p, vs, rfl, h1, q1⟩ := opd_tup sm o
    have hv := ints_of e2 q1
    subst hv
    obtain ⟨a1, a2, a3⟩ := minI_is e3
    refine cr_minT hc hu pins s σ H _ us Q I r ⟨_, _, rfl, h1, a1, fun k hk hy => ?_⟩
    rw [Int.le_antisymm (hy mx a2) (a3 k hk)]
    exact m.v sm (.int _)
  · obtain ⟨ys, e2, e⟩ := Option.bind_eq_some_iff.mp e
    cases e
    obtain ⟨x, rfl, o⟩ := opdAll_1 oa
    obtain ⟨p, vs, rfl, h1, q1⟩ := opd_list sm o
    unfold sortD at e2
    split at e2
    · rename_i ns e3
      cases e2
      have hv := ints_of e3 q1
      subst hv
      refine cr_sortedI pins s σ H _ us Q I r ⟨_, _, rfl, h1.sql, fun ns' b hp hw hb => ?_⟩
      have e4 : sortS (fun a b : Int => decide (a < b)) ns = ns' := sort_is swoI totI (hw.imp fun {x y} z => decide_eq_false (by omega)) hp
      rw [e4] at m
      exact m.o sm (dqAll_ints F ns') hb
    · split at e2
      · rename_i ts e3
        split at e2
        · rename_i hc2
          cases e2
          have hv := tups_of e3 q1
          refine cr_sortL pins s σ H _ us Q I r ⟨_, _, rfl, h1.sql, fun x hx => ?_, fun zs b hp hw hb => ?_⟩
          · obtain ⟨t, ht, pt, rfl, h2⟩ := hv.mem x hx
            refine ⟨t, ⟨pt, rfl, sqtMono sm h2⟩, fun h2 => ?_⟩
            rcases hc2 with z | z
            · rw [← hv.len] at z
              omega
            · have := List.all_eq_true.mp z t ht
              intro hn
              rw [hn] at this
              cases this
          · obtain ⟨us2, g1, g2⟩ := TupQs.perm hp hv
            have g3 : SrtO.Srtd lexI us2 := g1.pw (fun x y t u ⟨p1, r1, k1⟩ ⟨p2, r2, k2⟩ hxy => hxy t u ⟨p1, r1, sqtMono sm k1⟩ ⟨p2, r2, sqtMono sm k2⟩) hw
            rw [sort_is swoT lexI_tot g3 g2] at m
            exact m.o sm g1.dq hb
        · cases e2
      · cases e2
  · split at e
    · cases e
    rename_i hq
    cases e
    obtain ⟨x, rfl, o⟩ := opdAll_1 oa
    obtain ⟨p, ps, rfl, h1, q1⟩ := opd_dict sm o (by simpa using hq)
    refine call_lenR pins s σ H _ us Q I r ⟨_, _, rfl, h1, ?_⟩
    rw [q1.len]
    exact m.v sm (.int _)
  · split at e
    · cases e
    rename_i hq
    cases e
    obtain ⟨x, rfl, o⟩ := opdAll_1 oa
    obtain ⟨p, ps, rfl, h1, q1⟩ := opd_dict sm o (by simpa using hq)
    exact call_listD hc pins s σ H _ us Q I r ⟨_, _, rfl, h1, fun l hl => m.o sm (kv_keys q1) hl⟩
  · obtain ⟨ns, e2, e⟩ := Option.bind_eq_some_iff.mp e
    split at e
    · rename_i hz
      cases e
      obtain ⟨x, rfl, o⟩ := opdAll_1 oa
      obtain ⟨p, ps, rfl, h1, q1⟩ := opd_dict sm o (fnQ_ints e2)
      refine call_sortedDI hc pins s σ H _ us Q I r ⟨_, _, _, rfl, h1, kv_ints q1 e2, hz, fun ns' b hp hw hb => ?_⟩
      have e4 : sortS (fun a b : Int => decide (a < b)) ns = ns' := sort_is swoI totI (hw.imp fun {x y} z => decide_eq_false (by omega)) hp
      rw [e4] at m
      exact m.o sm (dqAll_ints F ns') hb
    · cases e
  · obtain ⟨kvs, e2, e⟩ := Option.bind_eq_some_iff.mp e
    cases e
    obtain ⟨x, rfl, o⟩ := opdAll_1 oa
    obtain ⟨p, vs, rfl, h1, q1⟩ := opd_list sm o
    obtain ⟨as, ps, rfl, g1, g2⟩ := prs_of (H := H) q1 e2 sm
    exact call_dictP hc pins s σ H _ us Q I r ⟨_, _, _, rfl, h1.sql, g1, fun b hb => m.w sm (DqKV.merge g2 .nil) hb⟩
  · split at e
    · rename_i i hz
      cases e
      obtain ⟨x, rfl, o⟩ := opdAll_1 oa
      cases opd_int o
      exact call_str_int pins s σ H _ us Q I r ⟨_, rfl, by omega, m.v sm (.str _)⟩
    · cases e
  · split at e
    · rename_i i j hz
      cases e
      obtain ⟨x, y, rfl, o, o2⟩ := opdAll_2 oa
      cases opd_int o
      cases opd_int o2
      exact call_divmodW pins s σ H _ us Q I r ⟨_, _, rfl, ⟨hz.1, PyProof.noPylong_of_log2 (by omega)⟩, fun p hp => m.t sm (.cons (.int _) (.cons (.int _) .nil)) hp⟩
    · cases e
  · cases e
/-- a method that changes a name's own list -/
theorem mt_ok {m : MT} {K : PySem.W.Frag} {pins : List (Addr × Obj)} {s : Shared} {σ : L2.St} {H F : Hp} {p : Addr} {vs ws : List V} {xs ds ys : List PyData} {d : PyData} {v : Value} {us : List Value} {Q : VK} (hK : X.K = K) (I : Inv X pins σ H s) (rx : RelV (.ref p) v) (r : Vals ws us)
    (hp : H p = some (.lst vs)) (q : DqAll K F vs xs) (qa : DqAll K F ws ds) (e : mtD m xs ds = some (d, ys)) (sm : Same F H) (h : ∀ w vs', Dq K F w d → DqAll K F vs' ys → Q w (upd H p (.lst vs'))) : wpAny (model X.prog X.w) X.A (call (.builtin m.id) (v :: us)) (EP X pins σ Q) X.xe s := by
  subst hK
  have l1 := dpAll_len q
  unfold mtD at e
  split at e
  · split at e
    · rename_i hz
      cases e
      cases qa with
      | cons a b =>
        cases b
        exact mt_append pins s σ H _ _ v us Q I rx r ⟨_, _, _, rfl, rfl, hp, by rw [l1]; exact hz, h _ _ .non (dpAll_app q (.cons a .nil))⟩
    · cases e
  · cases qa
    cases e2 : xs[xs.length - 1]? with
    | none =>
      rw [e2] at e
      cases e
    | some y =>
      rw [e2] at e
      cases e
      obtain ⟨w, hw, qw⟩ := dpAll_get q e2
      exact mt_pop pins s σ H _ _ v us Q I rx r ⟨_, _, w, rfl, rfl, hp, by rw [l1]; exact hw, h _ _ qw (dpAll_dropLast q)⟩
  · split at e
    · rename_i hz
      cases e
      cases qa with
      | cons a b =>
        cases b with
        | cons a2 b2 =>
          cases b2
          cases a
          have hl : (sizeLine : Nat) < 2 ^ 63 := line63
          refine mt_insert pins s σ H _ _ v us Q I rx r ⟨_, _, _, _, rfl, rfl, hp, by rw [l1]; exact hz.2.2, hz.1, by omega, h _ _ .non ?_⟩
          rw [List.append_assoc]
          exact dpAll_app (dpAll_take _ q) (.cons a2 (dpAll_drop _ q))
    · cases e
  · split at e
    · rename_i hz
      cases e
      cases qa with
      | cons a b =>
        cases b
        cases a with
        | lst h1 h2 =>
          cases rx
          obtain ⟨u, rfl, ru⟩ := vals1 r
          cases ru
          obtain ⟨z, its, n, rr, hl, e1⟩ := Inv.lstM I hp
          obtain ⟨z2, its2, n2, r2, hl2, e2⟩ := Inv.rdL I (rdlMono sm h1)
          have l2 := dpAll_len h2
          have hsz : its.toArray.size + its2.toArray.size ≤ sizeLine := by rw [List.size_toArray, List.size_toArray]; omega
          have hlong : ¬ (!its.toArray.isEmpty && Builtin.List.listTooLong (its.toArray.size + its2.toArray.size)) = true := by
            rw [notLongL hsz, Bool.and_false]
            decide
          refine call_meets PySem.F.slot_list_extend ⟨_, e1, rfl⟩ PySem.F.entry_list_extend (PySem.F.args_list_extend_2 _ _)
            (AutoSeq1.list_extend_list_list_0 p its.toArray n _ its2.toArray n2 hlong (by rw [List.size_toArray]; omega) (by omega)) ⟨e1, e2, ?_⟩
          exact ⟨.non, _, Inv.lset I (its' := its ++ its2) hp e1 (by simp) (rr.append r2) (by rw [List.length_append]; omega), rfl, h _ _ .non (dpAll_app q h2)⟩
    · cases e
  · cases e
end
end PF

/-! PF4: the check that a tree of the text is one of the small language's, and that the text does what the small language means: expressions. -/
namespace PF
open PySem PySem.Spec PyProof.Rows L2

/-! ### the check -/
structure Cfg where
  N : List Str
  fns : List Str
  cons : List (Str × PyData)
structure Sc where
  sc : Scope
  fb : Str → Bool
def visS (S : Sc) (x : Str) : Bool := match S.sc.names.lookup x with
  | some .local => true
  | some .cell => true
  | some .free => true
  | _ => false
def locS (S : Sc) (x : Str) : Bool := match S.sc.names.lookup x with
  | some .local => true
  | some .cell => S.fb x
  | _ => false
def glS (S : Sc) (x : Str) : Bool := decide (S.sc.names.lookup x = some .globalImplicit)
def okN (x : Str) : Bool := !(x == ("__debug__" : Str)) && !(x == ("__classdict__" : Str))
def nmS (C : Cfg) (S : Sc) (i : Nat) (x : Str) : Bool := decide (C.N[i]? = some x) && visS S x && okN x
def tgS (C : Cfg) (S : Sc) (i : Nat) (x : Str) : Bool := decide (C.N[i]? = some x) && locS S x
def plainA : Expr → Bool
  | .Constant .. => true
  | .Name .. => true
  | .BinOp .. => true
  | .UnaryOp .. => true
  | .BoolOp .. => true
  | .Compare .. => true
  | .IfExp .. => true
  | .Subscript .. => true
  | .Tuple .. => true
  | .List .. => true
  | .Call .. => true
  | .ListComp .. => true
  | .Dict .. => true
  | .DictComp .. => true
  | _ => false
/-- whose test is its value's truth -/
def tstA : Expr → Bool
  | .Constant .. => true
  | .Name .. => true
  | .BinOp .. => true
  | .Subscript .. => true
  | .Tuple .. => true
  | .List .. => true
  | .Call .. => true
  | .ListComp .. => true
  | _ => false
def constD : Const → Option PyData
  | .none => some .none
  | .bool b => some (.bool b)
  | .int i => some (.int i)
  | .str x => some (.str x)
  | _ => none
def eqFlat : PyData → PyData → Bool
  | .none, .none => true
  | .bool a, .bool b => a == b
  | .int a, .int b => decide (a = b)
  | .str a, .str b => decide (a = b)
  | _, _ => false
mutual
def slotsG : IG → List Nat
  | .n i => [i]
  | .t gs => slotsGs gs
def slotsGs : IGs → List Nat
  | .nil => []
  | .cons g r => slotsG g ++ slotsGs r
end
/-- a display's keys and values, one behind the other -/
def kvE : List (Option Expr) → List Expr → Option (List Expr)
  | [], [] => some []
  | some k :: ks, v :: vs => (kvE ks vs).map fun r => k :: v :: r
  | _, _ => none
def consL : IL → Bool
  | .nil => true
  | .cons _ r => consL r
  | _ => false
def notStar : Expr → Bool
  | .Starred .. => false
  | _ => true
mutual
def chkG (C : Cfg) (S : Sc) : IG → Expr → Bool
  | .n i, e => match e with
    | .Name x _ => tgS C S i x
    | _ => false
  | .t gs, e => match e with
    | .Tuple es _ _ => chkGs C S gs es
    | _ => false
def chkGs (C : Cfg) (S : Sc) : IGs → List Expr → Bool
  | .nil, es => es.isEmpty
  | .cons g r, es => match es with
    | e :: es' => chkG C S g e && notStar e && chkGs C S r es'
    | [] => false
end
def isTupA : Expr → Bool
  | .Tuple .. => true
  | _ => false
mutual
def chkE (C : Cfg) (S : Sc) : IE → List Expr → Option BoolOp → Bool
  | .k d, l, _ => match l with
    | [.Constant c _ _] => (match constD c with
      | some d' => eqFlat d d'
      | none => false)
    | _ => false
  | .g x, l, _ => match l with
    | [.Name y _] => decide (x = y) && glS S x && okN x
    | _ => false
  | .x i, l, _ => match l with
    | [.Name y _] => nmS C S i y
    | _ => false
  | .bin op a b, l, _ => match l with
    | [.BinOp x o y _] => decide (op = o) && chkE C S a [x] none && chkE C S b [y] none
    | _ => false
  | .neg a, l, _ => match l with
    | [.UnaryOp .USub x _] => chkE C S a [x] none
    | _ => false
  | .not a, l, _ => match l with
    | [.UnaryOp .Not x _] => chkE C S a [x] none
    | _ => false
  | .and a b, l, k => match l, k with
    | [.BoolOp .And (x :: y :: r) _], _ => chkE C S a [x] none && chkE C S b (y :: r) (some .And)
    | x :: y :: r, some .And => chkE C S a [x] none && chkE C S b (y :: r) (some .And)
    | _, _ => false
  | .or a b, l, k => match l, k with
    | [.BoolOp .Or (x :: y :: r) _], _ => chkE C S a [x] none && chkE C S b (y :: r) (some .Or)
    | x :: y :: r, some .Or => chkE C S a [x] none && chkE C S b (y :: r) (some .Or)
    | _, _ => false
  | .cmp op a b, l, _ => match l with
    | [.Compare x [o] [y] _] => decide (op = o) && chkE C S a [x] none && chkE C S b [y] none
    | _ => false
  | .ch op op' a b c, l, _ => match l with
    | [.Compare x [o, o'] [y, z] _] => decide (op = o) && decide (op' = o') && chkE C S a [x] none && chkE C S b [y] none && chkE C S c [z] none
    | _ => false
  | .ch3 op op' op'' a b c d, l, _ => match l with
    | [.Compare x [o, o', o''] [y, z, t] _] => decide (op = o) && decide (op' = o') && decide (op'' = o'') && chkE C S a [x] none && chkE C S b [y] none && chkE C S c [z] none && chkE C S d [t] none
    | _ => false
  | .ife t a b, l, _ => match l with
    | [.IfExp z x y _] => chkT C S t [z] none && chkE C S a [x] none && chkE C S b [y] none
    | _ => false
  | .ix a b, l, _ => match l with
    | [.Subscript x y _] => chkE C S a [x] none && chkE C S b [y] none
    | _ => false
  | .sl a lo hi, l, _ => match l with
    | [.Subscript x (.Slice u w none _) _] => chkE C S a [x] none && chkO C S lo u && chkO C S hi w
    | _ => false
  | .rv a, l, _ => match l with
    | [.Subscript x (.Slice none none (some (.UnaryOp .USub (.Constant (.int 1) _ _) _)) _) _] => chkE C S a [x] none
    | _ => false
  | .srs a, l, _ => match l with
    | [.Call (.Name y _) [.Call (.Name z _) [x] [] _] [] _] => decide (y = "sorted") && decide (z = "set") && glS S y && glS S z && chkE C S a [x] none
    | _ => false
  | .tup es, l, _ => match l with
    | [.Tuple xs _ _] => chkL C S es xs
    | _ => false
  | .lst es, l, _ => match l with
    | [.List xs _] => chkL C S es xs
    | _ => false
  | .fn f es, l, _ => match l with
    | [.Call (.Name x _) (z :: zs) [] _] => decide (x = f.nm) && glS S x && chkL C S es (z :: zs) && (z :: zs).all plainA
    | _ => false
  | .isi a t, l, _ => match l with
    | [.Call (.Name x _) [z, .Name y _] [] _] => decide (x = "isinstance") && glS S x && chkE C S a [z] none && decide (y = Str.ofString t) && glS S y && ["int", "bool", "str", "list", "tuple", "dict"].contains t
    | _ => false
  | .call f es, l, _ => match l with
    | [.Call (.Name x _) zs [] _] => decide (C.fns[f]? = some x) && glS S x && okN x && chkL C S es zs && zs.all plainA
    | _ => false
  | .act i f x es, l, _ => match l with
    | [.Call (.Name y _) (z :: zs) [] _] => nmS C S i y && decide (C.fns[f]? = some x) && chkL C S es (z :: zs) && (z :: zs).all plainA
    | _ => false
  | .lc own g it c e, l, _ => match l with
    | [.ListComp elt [⟨tg, iter, ifs, as⟩] scope _] => decide (as = 0) && chkI C S it tg iter && blkC C.N S.sc scope own &&
        chkG C ⟨relS scope S.sc, fun x => scope.names.lookup x == some .cell⟩ g tg && (slotsG g).all (fun i => own.any fun p => decide (p.2 = i)) &&
        (match ifs with
          | [] => (match c with
            | .yes => true
            | _ => false)
          | [z] => chkT C ⟨relS scope S.sc, fun x => scope.names.lookup x == some .cell⟩ c [z] none
          | _ => false) && chkE C ⟨relS scope S.sc, fun x => scope.names.lookup x == some .cell⟩ e [elt] none
    | _ => false
  | .lcl own i g c e, l, _ => match l with
    | [.ListComp elt [⟨tg, .Name x _, ifs, as⟩] scope _] => decide (as = 0) && nmS C S i x && blkC C.N S.sc scope own &&
        chkG C ⟨relS scope S.sc, fun x => scope.names.lookup x == some .cell⟩ g tg && (slotsG g).all (fun i => own.any fun p => decide (p.2 = i)) &&
        (match ifs with
          | [] => (match c with
            | .yes => true
            | _ => false)
          | [z] => chkT C ⟨relS scope S.sc, fun x => scope.names.lookup x == some .cell⟩ c [z] none
          | _ => false) && chkE C ⟨relS scope S.sc, fun x => scope.names.lookup x == some .cell⟩ e [elt] none
    | _ => false
  | .lcd own i g c e, l, _ => match l with
    | [.ListComp elt [⟨tg, .Name x _, ifs, as⟩] scope _] => decide (as = 0) && nmS C S i x && blkC C.N S.sc scope own &&
        chkG C ⟨relS scope S.sc, fun x => scope.names.lookup x == some .cell⟩ g tg && (slotsG g).all (fun i => own.any fun p => decide (p.2 = i)) &&
        (match ifs with
          | [] => (match c with
            | .yes => true
            | _ => false)
          | [z] => chkT C ⟨relS scope S.sc, fun x => scope.names.lookup x == some .cell⟩ c [z] none
          | _ => false) && chkE C ⟨relS scope S.sc, fun x => scope.names.lookup x == some .cell⟩ e [elt] none
    | _ => false
  | .dcm own g it c k e, l, _ => match l with
    | [.DictComp key elt [⟨tg, iter, ifs, as⟩] scope _] => decide (as = 0) && chkI C S it tg iter && blkC C.N S.sc scope own &&
        chkG C ⟨relS scope S.sc, fun x => scope.names.lookup x == some .cell⟩ g tg && (slotsG g).all (fun i => own.any fun p => decide (p.2 = i)) &&
        (match ifs with
          | [] => (match c with
            | .yes => true
            | _ => false)
          | [z] => chkT C ⟨relS scope S.sc, fun x => scope.names.lookup x == some .cell⟩ c [z] none
          | _ => false) && chkE C ⟨relS scope S.sc, fun x => scope.names.lookup x == some .cell⟩ k [key] none && chkE C ⟨relS scope S.sc, fun x => scope.names.lookup x == some .cell⟩ e [elt] none
    | _ => false
  | .lrg a, l, _ => match l with
    | [.Call (.Name x _) [.Call (.Name y _) [z] [] _] [] _] => decide (x = "list") && glS S x && decide (y = "range") && glS S y && chkE C S a [z] none
    | _ => false
  | .lrg2 a b, l, _ => match l with
    | [.Call (.Name x _) [.Call (.Name y _) [z, w] [] _] [] _] => decide (x = "list") && glS S x && decide (y = "range") && glS S y && chkE C S a [z] none && chkE C S b [w] none
    | _ => false
  | .mt m i es, l, _ => match l with
    | [.Call (.Attribute (.Name x _) a ap) zs [] cp] => nmS C S i x && decide (a = m.nm) && (ap.endLine == cp.line) && chkL C S es zs && zs.all plainA && decide (zs.length ≤ 2)
    | _ => false
  | .dic es, l, _ => match l with
    | [.Dict ks vs _] => (match kvE ks vs with
      | some zs => consL es && chkL C S es zs && zs.all plainA && decide (ks.length ≤ 15)
      | none => false)
    | _ => false
  | .dget i k e, l, _ => match l with
    | [.Call (.Attribute (.Name x _) a ap) [y, z] [] cp] => nmS C S i x && decide (a = "get") && (ap.endLine == cp.line) && chkE C S k [y] none && chkE C S e [z] none
    | _ => false
  | .dix i k, l, _ => match l with
    | [.Subscript (.Name x _) y _] => nmS C S i x && chkE C S k [y] none
    | _ => false
  | .din n i k, l, _ => match l with
    | [.Compare y [o] [.Name x _] _] => decide (o = if n = true then CmpOp.NotIn else CmpOp.In) && nmS C S i x && chkE C S k [y] none
    | _ => false
  | .bits a, l, _ => match l with
    | [.Call (.Attribute (.Name x p) m ap) [] [] cp] => decide (m = "bit_length") && (ap.endLine == cp.line) && chkE C S a [.Name x p] none
    | _ => false
def chkT (C : Cfg) (S : Sc) : IT → List Expr → Option BoolOp → Bool
  | .yes, _, _ => false
  | .e a, l, _ => match l with
    | [z] => chkE C S a [z] none && (tstA z || (match a, z with
      | .cmp .., .Compare .. => true
      | .ch .., .Compare .. => true
      | .ch3 .., .Compare .. => true
      | .din .., .Compare .. => true
      | _, _ => false))
    | _ => false
  | .not a, l, _ => match l with
    | [.UnaryOp .Not x _] => chkT C S a [x] none
    | _ => false
  | .and a b, l, k => match l, k with
    | [.BoolOp .And (x :: y :: r) _], _ => chkT C S a [x] none && chkT C S b (y :: r) (some .And)
    | x :: y :: r, some .And => chkT C S a [x] none && chkT C S b (y :: r) (some .And)
    | _, _ => false
  | .or a b, l, k => match l, k with
    | [.BoolOp .Or (x :: y :: r) _], _ => chkT C S a [x] none && chkT C S b (y :: r) (some .Or)
    | x :: y :: r, some .Or => chkT C S a [x] none && chkT C S b (y :: r) (some .Or)
    | _, _ => false
  | .ife _ _ _, _, _ => false
def chkL (C : Cfg) (S : Sc) : IL → List Expr → Bool
  | .nil, l => l.isEmpty
  | .cons a r, l => match l with
    | z :: zs => chkE C S a [z] none && chkL C S r zs
    | [] => false
  | .star a r, l => match l with
    | .Starred z _ :: zs => chkE C S a [z] none && chkL C S r zs
    | _ => false
  | .io i r, l => match l with
    | .Name x _ :: zs => nmS C S i x && chkL C S r zs
    | _ => false
def chkO (C : Cfg) (S : Sc) : IO → Option Expr → Bool
  | .no, l => l.isNone
  | .so a, l => match l with
    | some z => chkE C S a [z] none
    | none => false
def chkI (C : Cfg) (S : Sc) : II → Expr → Expr → Bool
  | .e a, _, it => chkE C S a [it] none
  | .r1 a, _, it => match it with
    | .Call (.Name x _) [z] [] _ => decide (x = "range") && glS S x && chkE C S a [z] none
    | _ => false
  | .r2 a b, _, it => match it with
    | .Call (.Name x _) [z, w] [] _ => decide (x = "range") && glS S x && chkE C S a [z] none && chkE C S b [w] none
    | _ => false
  | .rd a b, _, it => match it with
    | .Call (.Name x _) [z, w, .UnaryOp .USub (.Constant (.int 1) _ _) _] [] _ => decide (x = "range") && glS S x && chkE C S a [z] none && chkE C S b [w] none
    | _ => false
  | .zip a b, tg, it => match it with
    | .Call (.Name x _) [z, w] [] _ => isTupA tg && decide (x = "zip") && glS S x && chkE C S a [z] none && chkE C S b [w] none
    | _ => false
  | .zip3 a b c, tg, it => match it with
    | .Call (.Name x _) [z, w, u] [] _ => isTupA tg && decide (x = "zip") && glS S x && chkE C S a [z] none && chkE C S b [w] none && chkE C S c [u] none
    | _ => false
  | .enum a, tg, it => match it with
    | .Call (.Name x _) [z] [] _ => isTupA tg && decide (x = "enumerate") && glS S x && chkE C S a [z] none
    | _ => false
end
theorem chk_plain (C : Cfg) (S : Sc) (e : IE) (z : Expr) (h : chkE C S e [z] none = true) : plainA z = true := by
  cases z <;> first | rfl | (cases e <;> exact absurd h Bool.false_ne_true)
end PF

/-! PF5: what a def promises (FnG), the context (COk), readings of the small language's parts, lemmas for comprehensions. -/
namespace PF
open PySem PySem.Spec PyProof.Rows L2

/-! ### a def's promise -/
def LentAt (vs : List V) (as : List Sl) (p : Addr) : Prop := ∃ (i : Nat) (ds : List PyData), as[i]? = some (.b ds) ∧ vs[i]? = some (.ref p)
def ArgR (K : PySem.W.Frag) (F H : Hp) (v : V) : Sl → Prop
  | .v d => Dq K F v d
  | .b ds => ∃ p ws, v = .ref p ∧ F p = none ∧ H p = some (.lst ws) ∧ DqAll K F ws ds
  | .o _ => False
  | .w _ => False
structure FPost (K : PySem.W.Frag) (vs : List V) (as : List Sl) (H F H' F' : Hp) (v : V) (r : Sl) (l : List PyData) : Prop where
  mono : Same F F'
  sub : Same F' H'
  keep : ∀ b o, H b = some o → NT o → ¬ LentAt vs as b → H' b = some o
  live : ∀ b, H b ≠ none → H' b ≠ none
  fresh : ∀ b, F' b ≠ none → F b ≠ none ∨ H b = none
  res : RV K H H' F' v r
  lent : ∀ p, LentAt vs as p → F' p = none ∧ ∃ ws, H' p = some (.lst ws) ∧ DqAll K F' ws l
  tabs : Tm K H H'
abbrev DefG := List Sl → Option (Sl × List PyData)
def spF (K : PySem.W.Frag) (g : DefG) (vs : List V) (H : Hp) (Q : VK) : Prop :=
  ∃ F as r l, Same F H ∧ TabF K F H ∧ Paired (ArgR K F H) vs as ∧ (∀ (i j : Nat) (d e : List PyData), as[i]? = some (.b d) → as[j]? = some (.b e) → i = j) ∧ g as = some (r, l) ∧ ∀ v H' F', FPost K vs as H F H' F' v r l → Q v H'
structure FnG (P : Program) (w : World) (K : PySem.W.Frag) (mg : Str → Option Value) (base : Heap) (n : Nat) (a : Addr) (fd : FuncData) (ps : List Str) (g : DefG) : Prop where
  len : ∀ as r, g as = some r → as.length = ps.length
  run : ∀ (A : Around) (outer : List Env) (s : Shared) (H : Hp) (args : Args) (us : List Value) (vs : List V) (Q : VK), Room n A → A.guards = some [] → Env0 P w K mg base A outer s H → BindsTo s fd args (ps.zip us) → Vals vs us → spF K g vs H Q →
    codeAny (model P w) A (.call (.ref a) args) (CR CX0 outer P w H s Q E0) s
structure FnP (P : Program) (w : World) (K : PySem.W.Frag) (mg : Str → Option Value) (base : Heap) (n : Nat) (a : Addr) (g : DefG) : Prop where
  kp : PySem.W.keepIn K (.ref a) = true
  ex : ∃ fd ps, L2.Binds K fd ps [] ∧ FnG P w K mg base n a fd ps g

def blts : List Str := ["len", "abs", "int", "max", "min", "sum", "all", "any", "repr", "tuple", "list", "sorted", "str", "range", "zip", "enumerate", "isinstance", "bool", "dict", "divmod", "set"]
structure COk (X : Cx) (C : Cfg) (Γ : Tab) (n : Nat) : Prop where
  calm : X.calm = true
  N : X.N = C.N
  nd : X.N.Nodup
  room : Room n X.A
  guards : X.A.guards = some []
  blt : ∀ x ∈ blts, X.mg x = none
  cons : ∀ x d, C.cons.lookup x = some d → ∃ u v, X.mg x = some u ∧ RelV v u ∧ ∀ F, Dq X.K F v d
  fns : ∀ f x, C.fns[f]? = some x → ∃ a, X.mg x = some (.ref a) ∧ FnP X.prog X.w X.K X.mg X.base n a (Γ f)
structure SOk (X : Cx) (S : Sc) : Prop where
  sc : X.env.scope = S.sc
  fb : ∀ x, S.fb x = true → X.fn x = true
section
variable {X : Cx} {C : Cfg} {S : Sc} {Γ : Tab} {n : Nat}
theorem COk.units (h : COk X C Γ n) : X.A.units + 65 < cLine := by
  have := h.room.un
  omega
theorem vis_of (h : SOk X S) {x : Str} (e : visS S x = true) : Vis X.env.scope x := by
  unfold visS at e
  unfold Vis
  rw [h.sc]
  split at e
  · exact .inl (by assumption)
  · exact .inr (.inl (by assumption))
  · exact .inr (.inr (by assumption))
  · cases e
theorem loc_of (h : SOk X S) {x : Str} (e : locS S x = true) : L2.Loc X.env.scope x ∧ (X.fn x = true ∨ X.env.scope.names.lookup x = some .local) := by
  unfold locS at e
  unfold L2.Loc
  rw [h.sc]
  split at e
  · exact ⟨.inl (by assumption), .inr (by assumption)⟩
  · exact ⟨.inr (by assumption), .inl (h.fb _ e)⟩
  · cases e
theorem gl_of (h : SOk X S) {x : Str} (e : glS S x = true) : Gl X x := by
  show X.env.scope.names.lookup x = _
  rw [h.sc]
  exact of_decide_eq_true e
theorem okN_1 {x : Str} (e : okN x = true) : (x == ("__debug__" : Str)) = false := by
  unfold okN at e
  rw [Bool.and_eq_true] at e
  exact Bool.not_eq_true' _ ▸ e.1
theorem okN_2 {x : Str} (e : okN x = true) : (x == ("__classdict__" : Str)) = false := by
  unfold okN at e
  rw [Bool.and_eq_true] at e
  exact Bool.not_eq_true' _ ▸ e.2
theorem pe_nm (hC : COk X C Γ n) (hS : SOk X S) {i : Nat} {x : Str} {p : Pos} (e : nmS C S i x = true) : PE X (.Name x p) (tVar i) := by
  unfold nmS at e
  rw [Bool.and_eq_true, Bool.and_eq_true] at e
  exact pe_var (by rw [hC.N]; exact of_decide_eq_true e.1.1) (vis_of hS e.1.2) (okN_1 e.2) (okN_2 e.2)
theorem blt_of (hC : COk X C Γ n) {x : Str} (h : blts.contains x = true) : X.mg x = none := hC.blt x (by simpa using h)

/-! ### what a plain tree is -/
theorem plain_star {z : Expr} (h : plainA z = true) (zs : List Expr) (env : Env) : starEach (z :: zs) env = (false, eval z env) :: starEach zs env := by
  cases z <;> first | exact absurd h Bool.false_ne_true | rfl
theorem plain_marks {z : Expr} (h : plainA z = true) (op : CmpOp) : behindInMarks op z = false := by
  cases z <;> first | exact absurd h Bool.false_ne_true | rfl
theorem plain_ix {z : Expr} (h : plainA z = true) : PlainIx z := by
  cases z <;> first | exact absurd h Bool.false_ne_true | exact fun _ _ => rfl
theorem plain_folded {z : Expr} (h : plainA z = true) (env : Env) (x : Value) : foldedSetIterable z env x = pure x := by
  cases z <;> first | exact absurd h Bool.false_ne_true | rfl
theorem plain_tst {z : Expr} (h : tstA z = true) (env : Env) (whole : Sem Value) : PySem.isTrue z env whole = (do let v ← whole; standAt z.pos; holding [v] (truthy v)) := by
  cases z <;> first | exact absurd h Bool.false_ne_true | rfl
theorem plain_any : ∀ {zs : List Expr} (h : zs.all plainA = true) (pos : Pos) (env : Env), (backTo pos (starEach zs env)).any (·.1) = false
  | [], _, _, _ => rfl
  | z :: zs, h, pos, env => by
    rw [List.all_cons, Bool.and_eq_true] at h
    rw [plain_star h.1]
    show (false || (backTo pos (starEach zs env)).any (·.1)) = false
    rw [plain_any h.2 pos env]
    rfl
theorem plain_all : ∀ {zs : List Expr} (h : zs.all plainA = true) (pos : Pos) (env : Env), (backTo pos (starEach zs env)).all (fun x => !x.1) = true
  | [], _, _, _ => rfl
  | z :: zs, h, pos, env => by
    rw [List.all_cons, Bool.and_eq_true] at h
    rw [plain_star h.1]
    show (true && (backTo pos (starEach zs env)).all (fun x => !x.1)) = true
    rw [plain_all h.2 pos env]
    rfl
theorem pe_mono {e : Expr} {t t' : TE} (h : PE X e t) (f : ∀ σ H Q, t' σ H Q → t σ H Q) : PE X e t' := ⟨fun pins s σ H Q I q => h.run pins s σ H Q I (f σ H Q q)⟩
theorem pt_mono {e : Expr} {t t' : TT} (h : PT X e t) (f : ∀ σ H Q, t' σ H Q → t σ H Q) : PT X e t' := ⟨fun pins s σ H Q I q => h.run pins s σ H Q I (f σ H Q q)⟩
theorem pw_mono {e : Expr} {t t' : TT} (h : PW X e t) (f : ∀ σ H Q, t' σ H Q → t σ H Q) : PW X e t' := ⟨fun wh pins s σ H Q I q => h.run wh pins s σ H Q I (f σ H Q q)⟩
theorem pa_mono {es : List Expr} {t t' : TA} (h : PA X es t) (f : ∀ σ H Q, t' σ H Q → t σ H Q) : PA X es t' := ⟨fun pos pins s σ H Q I q => h.run pos pins s σ H Q I (f σ H Q q)⟩
theorem pg_mono {e : Expr} {t t' : TG} (h : PG X e t) (f : ∀ v σ H Q, t' v σ H Q → t v σ H Q) : PG X e t' := ⟨fun pins s σ H v u Q I r q => h.run pins s σ H v u Q I r (f v σ H Q q)⟩
theorem pgs_mono {es : List Expr} {t t' : TGs} (h : PGs X es t) (f : ∀ v σ H Q, t' v σ H Q → t v σ H Q) : PGs X es t' := ⟨fun pins s σ H v u Q I r q => h.run pins s σ H v u Q I r (f v σ H Q q)⟩
theorem ps_mono {e : Stmt} {t t' : TS} (h : PS X e t) (f : ∀ D σ H, t' D σ H → t D σ H) : PS X e t' := ⟨fun pins s σ H D I q => h.run pins s σ H D I (f D σ H q)⟩
theorem pss_mono {e : List Stmt} {t t' : TS} (h : PSs X e t) (f : ∀ D σ H, t' D σ H → t D σ H) : PSs X e t' := ⟨fun pins s σ H D I q => h.run pins s σ H D I (f D σ H q)⟩
theorem pi_mono {tg e : Expr} {t t' : TI} (h : PI X tg e t) (f : ∀ σ H R, t' σ H R → t σ H R) : PI X tg e t' := ⟨fun pins s σ H R I q => h.run pins s σ H R I (f σ H R q)⟩
theorem po_mono {e : Option Expr} {t t' : TO} (h : PO X e t) (f : ∀ σ H Q, t' σ H Q → t σ H Q) : PO X e t' := ⟨fun pins s σ H Q I q => h.run pins s σ H Q I (f σ H Q q)⟩

/-! ### the call of a def -/
theorem paired_len {α β : Type} {R : α → β → Prop} : ∀ {l : List α} {m : List β}, Paired R l m → l.length = m.length
  | _, _, .nil => rfl
  | _, _, .cons _ t => by rw [List.length_cons, List.length_cons, paired_len t]
theorem run_fnG {a : Addr} {g : DefG} {pins : List (Addr × Obj)} {σ : L2.St} {H : Hp} {s : Shared} {Q : VK} {us : List Value} {vs : List V} (F : FnP X.prog X.w X.K X.mg X.base n a g) (hr : Room n X.A) (hg : X.A.guards = some []) (I : L2.Inv X pins σ H s)
    (r : Vals vs us) (h : spF X.K g vs H Q) : wpAny (model X.prog X.w) X.A (call (.ref a) us) (EP X pins σ Q) X.xe s := by
  obtain ⟨fd, ps, hb, G⟩ := F.ex
  have hl : us.length = ps.length := by
    obtain ⟨F, as, x, l, _, _, h2, _, h4, _⟩ := h
    rw [← G.len as _ h4, ← paired_len h2, r.length]
  have hb' := hb s us I.kIn (by rw [List.append_nil]; exact hl)
  rw [List.append_nil] at hb'
  refine wpAny_call (codeAny_mono (G.run X.A X.stack s H ⟨us, []⟩ us vs Q hr hg I.env0 hb' r h) fun x s' hq => ?_)
  cases x with
  | error e => exact False.elim hq
  | ok fl =>
    cases fl with
    | ret u => exact I.after hq
    | next => exact False.elim hq
    | brk => exact False.elim hq
    | cont => exact False.elim hq
def tCG (K : PySem.W.Frag) (g : DefG) (t : TA) : TE := fun σ H Q => t σ H fun vs H1 => spF K g vs H1 Q
theorem pe_callG {a : Addr} {g : DefG} {x : Str} {p pos : Pos} {z : Expr} {zs : List Expr} {t : TA} (hC : COk X C Γ n) (F : FnP X.prog X.w X.K X.mg X.base n a g) (hg : Gl X x) (hm : X.mg x = some (.ref a)) (hx : okN x = true) (ha : PA X (z :: zs) t) (hp : (z :: zs).all plainA = true) :
    PE X (.Call (.Name x p) (z :: zs) [] pos) (tCG X.K g t) := by
  refine ⟨fun pins s σ H Q I h => ?_⟩
  refine wpAny_Call_Name_kw (ld_glob I hg hm ?_ (okN_1 hx))
  rw [List.all_cons, Bool.and_eq_true] at hp
  refine PySem.W.callWith_K (h₀ := X.base) I.ok.mod.kin F.kp (thn (ha.run pos pins s σ H _ I h) fun us s1 ⟨vs, H1, I1, r, q⟩ => ⟨I1.kIn, ?_⟩) (plain_star hp.1 _ _) (plain_any hp.2 _ _)
  exact run_fnG F hC.room hC.guards I1 r q
theorem pe_callG0 {a : Addr} {g : DefG} {x : Str} {p pos : Pos} (hC : COk X C Γ n) (F : FnP X.prog X.w X.K X.mg X.base n a g) (hg : Gl X x) (hm : X.mg x = some (.ref a)) (hx : okN x = true) :
    PE X (.Call (.Name x p) [] [] pos) (fun σ H Q => spF X.K g [] H Q) := by
  refine ⟨fun pins s σ H Q I h => ?_⟩
  refine wpAny_Call_Name_kw (ld_glob I hg hm ?_ (okN_1 hx))
  exact PySem.W.callWith_K0 I.kIn F.kp (run_fnG (us := []) F hC.room hC.guards I .nil h)
end
end PF

/-! PF5b: lemmas for loops and comprehensions. -/
namespace PF
open PySem PySem.Spec PyProof.Rows L2
section
variable {K : PySem.W.Frag} {G : Gh} {σ : L2.St} {H F H' F' : Hp} {env env' : En}
/-- behind a call that was lent a name's list -/
theorem Rel.lent (R : Rel K G σ H F env) {i : Nat} {s s' : Sl} {ds l : List PyData} {p : Addr} {ws : List V} (h : env.at i = some s) (hm : s.m = some (.l ds)) (a : σ[i]? = some (some (.ref p)))
    (mono : Same F F') (sub : Same F' H') (keep : ∀ b o, H b = some o → NT o → b ≠ p → H' b = some o) (live : ∀ b, H b ≠ none → H' b ≠ none) (tm : Tm K H H') (fresh : ∀ b, F' b ≠ none → F b ≠ none ∨ H b = none)
    (fp : F' p = none) (hp : H' p = some (.lst ws)) (q : DqAll K F' ws l) (hm' : s'.m = some (.l l)) (hb : isB s' = isB s) :
    Rel K G σ H' F' (env.set i (some s')) ∧ Ext K σ env H F H' F' (env.set i (some s')) := by
  obtain ⟨p2, vs, a2, f2, hp2, _, _, _⟩ := R.mu i s ds h hm
  rw [a] at a2
  cases a2
  have e : upd (upd H' p (.lst vs)) p (.lst ws) = H' := by
    rw [upd_upd]
    funext b
    unfold upd
    split
    · rename_i hb2
      rw [hb2]
      exact hp.symm
    · rfl
  obtain ⟨R1, E1⟩ := R.growT (F' := F') (H' := upd H' p (.lst vs)) mono (fun b o z => by
    rw [upd_ne (ne_of_none z fp)]
    exact sub b o z) (fun b o z nt => by
    by_cases hb2 : b = p
    · subst hb2
      rw [upd_same, ← z]
      exact hp2.symm
    · rw [upd_ne hb2]
      exact keep b o z nt hb2) (fun b z => by
    by_cases hb2 : b = p
    · rw [hb2, upd_same]
      simp
    · rw [upd_ne hb2]
      exact live b z) fresh (tm.trans (Tm.upd (Da.of hp (.inl ⟨_, rfl⟩)) .lst))
  obtain ⟨R2, E2⟩ := R1.change (ws := ws) h hm a upd_same hm' hb q
  rw [e] at R2 E2
  exact ⟨R2, E1.trans E2⟩
/-- a list that is nobody's is changed -/
theorem Rel.poke (R : Rel K G σ H F env) {p : Addr} {o : HO} (g0 : G.H0 p = none) (f : F p = none) (no : ¬ Own σ env p) (da : Da H p) (nl : NL o := by first | exact NL.lst | exact NL.tup | exact NL.dK | exact NL.fdK | (intro _ _ z; cases z) | (intro _ _ z; unfold LamX.CodeO at z; cases z)) : Rel K G σ (upd H p o) F env := by
  refine ⟨R.len, fun b u e => ?_, R.base, fun b u e nt n => ?_, fun b e => ?_, R.new, R.val, fun i s ds h hm => ?_, R.apart, R.tabs.trans (Tm.upd da nl), R.ent.tm (Tm.upd da nl)⟩
  · rw [upd_ne (ne_of_none e f)]
    exact R.sub b u e
  · rw [upd_ne (ne_of_none e g0)]
    exact R.fro b u e nt n
  · by_cases hb : b = p
    · subst hb
      rw [upd_same]
      simp
    · rw [upd_ne hb]
      exact R.live b e
  · obtain ⟨p2, vs, a, f2, hp, q, b1, b2⟩ := R.mug i s ds h hm
    refine ⟨p2, vs, a, f2, ?_, q, b1, b2⟩
    rw [upd_ne]
    · exact hp
    · rintro rfl
      exact no ⟨i, s, ds, h, hm, a⟩
/-! ### a comprehension's own names -/
def ixs (own : List (Str × Nat)) : List Nat := own.map (·.2)
theorem wipeE_len (env : En) : ∀ own : List (Str × Nat), (wipeE env own).length = env.length
  | [] => rfl
  | p :: r => by
    unfold wipeE
    rw [List.length_set, wipeE_len env r]
theorem backE_len (e0 env : En) : ∀ own : List (Str × Nat), (backE e0 env own).length = env.length
  | [] => rfl
  | p :: r => by
    unfold backE
    rw [List.length_set, backE_len e0 env r]
theorem wipeE_at (env : En) (i : Nat) : ∀ own : List (Str × Nat), (wipeE env own).at i = if i ∈ ixs own then none else env.at i
  | [] => by simp [ixs, wipeE]
  | p :: r => by
    unfold wipeE
    rw [at_set, wipeE_at env i r, wipeE_len]
    unfold ixs
    rw [List.map_cons]
    by_cases h : p.2 = i
    · subst h
      by_cases hl : p.2 < env.length
      · rw [if_pos ⟨rfl, hl⟩, if_pos List.mem_cons_self]
      · rw [if_neg fun z => hl z.2, if_pos List.mem_cons_self]
        split
        · rfl
        · unfold En.at
          rw [List.getElem?_eq_none (by omega)]
          rfl
    · rw [if_neg fun z => h z.1]
      by_cases hm : i ∈ r.map (·.2)
      · rw [if_pos hm, if_pos (List.mem_cons_of_mem _ hm)]
      · rw [if_neg hm, if_neg]
        intro z
        rcases List.mem_cons.mp z with z | z
        · exact h z.symm
        · exact hm z
theorem backE_at (e0 env : En) (hl : e0.length = env.length) (i : Nat) : ∀ own : List (Str × Nat), (backE e0 env own).at i = if i ∈ ixs own then e0.at i else env.at i
  | [] => by simp [ixs, backE]
  | p :: r => by
    unfold backE
    rw [at_set, backE_at e0 env hl i r, backE_len]
    unfold ixs
    rw [List.map_cons]
    by_cases h : p.2 = i
    · subst h
      by_cases hl2 : p.2 < env.length
      · rw [if_pos ⟨rfl, hl2⟩, if_pos List.mem_cons_self]
        rfl
      · rw [if_neg fun z => hl2 z.2, if_pos List.mem_cons_self]
        have n1 : env.at p.2 = none := by
          unfold En.at
          rw [List.getElem?_eq_none (by omega)]
          rfl
        have n2 : e0.at p.2 = none := by
          unfold En.at
          rw [List.getElem?_eq_none (by omega)]
          rfl
        rw [n1, n2]
        split <;> rfl
    · rw [if_neg fun z => h z.1]
      by_cases hm : i ∈ r.map (·.2)
      · rw [if_pos hm, if_pos (List.mem_cons_of_mem _ hm)]
      · rw [if_neg hm, if_neg]
        intro z
        rcases List.mem_cons.mp z with z | z
        · exact h z.symm
        · exact hm z
theorem wipe_get (σ : L2.St) (i : Nat) : ∀ vs : List Nat, i ∉ vs → (wipe σ vs)[i]? = σ[i]?
  | [], _ => rfl
  | v :: vs, h => by
    unfold wipe
    rw [st_get, if_neg fun (z : v = i) => h (by rw [← z]; exact List.mem_cons_self)]
    exact wipe_get σ i vs fun z => h (List.mem_cons_of_mem _ z)
theorem wipe_in (σ : L2.St) (i : Nat) : ∀ vs : List Nat, i ∈ vs → i < σ.length → (wipe σ vs)[i]? = some none
  | v :: vs, h, hl => by
    unfold wipe
    rw [st_get, wipe_length]
    by_cases e : v = i
    · rw [if_pos e, if_pos (by omega)]
    · rw [if_neg e]
      exact wipe_in σ i vs ((List.mem_cons.mp h).resolve_left fun z => e z.symm) hl
theorem wipe_eq {σ τ : L2.St} {vs : List Nat} (hl : σ.length = τ.length) (h : ∀ i, i ∉ vs → σ[i]? = τ[i]?) : wipe σ vs = wipe τ vs := by
  apply List.ext_getElem?
  intro i
  by_cases hm : i ∈ vs
  · by_cases hi : i < σ.length
    · rw [wipe_in σ i vs hm hi, wipe_in τ i vs hm (by omega)]
    · rw [List.getElem?_eq_none (by rw [wipe_length]; omega), List.getElem?_eq_none (by rw [wipe_length]; omega)]
  · rw [wipe_get σ i vs hm, wipe_get τ i vs hm]
    exact h i hm
theorem wipe_wipe (σ : L2.St) (vs : List Nat) : wipe (wipe σ vs) vs = wipe σ vs := wipe_eq (wipe_length σ vs) fun i h => wipe_get σ i vs h
theorem Rel.wiped (R : Rel K G σ H F env) (own : List (Str × Nat)) : Rel K G (wipe σ (ixs own)) H F (wipeE env own) ∧ ∀ b, Own (wipe σ (ixs own)) (wipeE env own) b → Own σ env b := by
  have key : ∀ i s, (wipeE env own).at i = some s → i ∉ ixs own ∧ env.at i = some s := fun i s e => by
    rw [wipeE_at] at e
    by_cases hm : i ∈ ixs own
    · rw [if_pos hm] at e
      cases e
    · rw [if_neg hm] at e
      exact ⟨hm, e⟩
  refine ⟨⟨by rw [wipeE_len, wipe_length]; exact R.len, R.sub, R.base, R.fro, R.live, R.new, fun i d e => ?_, fun i s ds e hm => ?_, fun i j p n z1 z2 g1 g2 => ?_, R.tabs, R.ent⟩, fun b z => ?_⟩
  · obtain ⟨n, e'⟩ := key i _ e
    rw [wipe_get σ i _ n]
    exact R.val i d e'
  · obtain ⟨n, e'⟩ := key i _ e
    rw [wipe_get σ i _ n]
    exact R.mug i s ds e' hm
  · obtain ⟨s, ds, e, hm⟩ := z1
    obtain ⟨s', ds', e', hm'⟩ := z2
    obtain ⟨n1, k1⟩ := key i s e
    obtain ⟨n2, k2⟩ := key j s' e'
    rw [wipe_get σ i _ n1] at g1
    rw [wipe_get σ j _ n2] at g2
    exact R.apart i j p n ⟨s, ds, k1, hm⟩ ⟨s', ds', k2, hm'⟩ g1 g2
  · obtain ⟨i, s, ds, e, hm, g⟩ := z
    obtain ⟨n, e'⟩ := key i s e
    rw [wipe_get σ i _ n] at g
    exact ⟨i, s, ds, e', hm, g⟩
theorem noOwn_at {env : En} {i : Nat} {s : Sl} : ∀ {own : List (Str × Nat)}, noOwn env own = true → i ∈ ixs own → env.at i = some s → s.m = none
  | [], _, hm, _ => by simp [ixs] at hm
  | p :: r, h, hm, e => by
    unfold noOwn at h
    rw [Bool.and_eq_true] at h
    unfold ixs at hm
    rw [List.map_cons] at hm
    rcases List.mem_cons.mp hm with z | z
    · have h1 := h.1
      rw [← z, e] at h1
      cases s with
      | v d => rfl
      | o ds => cases h1
      | b ds => cases h1
      | w ds => cases h1
    · exact noOwn_at h.2 z e
theorem Rel.back {H1 F1 : Hp} {e1 : En} {own : List (Str × Nat)} (R1 : Rel K G σ H1 F1 e1) (hn : noOwn e1 own = true) (R : Rel K G (wipe σ (ixs own)) H F env) (m : Same F1 F) :
    Rel K G σ H F (backE e1 env own) ∧ ∀ b, Own σ (backE e1 env own) b → Own (wipe σ (ixs own)) env b := by
  have hlen : e1.length = env.length := by rw [R1.len, R.len, wipe_length]
  have key : ∀ i s, (backE e1 env own).at i = some s → (i ∈ ixs own ∧ e1.at i = some s ∧ s.m = none) ∨ (i ∉ ixs own ∧ env.at i = some s) := fun i s e => by
    rw [backE_at e1 env hlen] at e
    by_cases hm : i ∈ ixs own
    · rw [if_pos hm] at e
      exact .inl ⟨hm, e, noOwn_at hn hm e⟩
    · rw [if_neg hm] at e
      exact .inr ⟨hm, e⟩
  have mut1 : ∀ i s ds, (backE e1 env own).at i = some s → s.m = some ds → i ∉ ixs own ∧ env.at i = some s := fun i s ds e hm => by
    rcases key i s e with ⟨_, _, z⟩ | z
    · rw [z] at hm
      cases hm
    · exact z
  refine ⟨⟨by rw [backE_len, R.len, wipe_length], R.sub, R.base, R.fro, R.live, R.new, fun i d e => ?_, fun i s ds e hm => ?_, fun i j p n z1 z2 g1 g2 => ?_, R.tabs, R.ent⟩, fun b z => ?_⟩
  · rcases key i _ e with ⟨_, e', _⟩ | ⟨n, e'⟩
    · obtain ⟨v, a, q⟩ := R1.val i d e'
      exact ⟨v, a, dpMono m d q⟩
    · have := R.val i d e'
      rw [wipe_get σ i _ n] at this
      exact this
  · obtain ⟨n, e'⟩ := mut1 i s ds e hm
    have := R.mug i s ds e' hm
    rw [wipe_get σ i _ n] at this
    exact this
  · obtain ⟨s, ds, e, hm⟩ := z1
    obtain ⟨s', ds', e', hm'⟩ := z2
    obtain ⟨n1, k1⟩ := mut1 i s ds e hm
    obtain ⟨n2, k2⟩ := mut1 j s' ds' e' hm'
    rw [← wipe_get σ i _ n1] at g1
    rw [← wipe_get σ j _ n2] at g2
    exact R.apart i j p n ⟨s, ds, k1, hm⟩ ⟨s', ds', k2, hm'⟩ g1 g2
  · obtain ⟨i, s, ds, e, hm, g⟩ := z
    obtain ⟨n, e'⟩ := mut1 i s ds e hm
    rw [← wipe_get σ i _ n] at g
    exact ⟨i, s, ds, e', hm, g⟩
end
/-! ### what is walked -/
section
variable {K : PySem.W.Frag}
/-- at each turn below n the walk gives the data's next item -/
structure WalkD (K : PySem.W.Frag) (F : Hp) (J : It) (ds : List PyData) : Prop where
  ex : ∃ (Gd : Hp → Prop) (Y : Nat → Hp → V → Hp → Prop), Walk J ds.length Gd Y ∧ (∀ H, Same F H → Gd H) ∧
    ∀ i H x H' F1, i < ds.length → Y i H x H' → Same F F1 → Same F1 H → ∃ F2, Same F1 F2 ∧ Same F2 H' ∧ Same H H' ∧ NFS H H' ∧ (∀ b, F2 b ≠ none → F1 b ≠ none ∨ H b = none) ∧ ∃ d, ds[i]? = some d ∧ Dq K F2 x d
theorem sqlMono {H H' : Hp} {a : Addr} {xs : List V} (e : Same H H') (h : SqL K H a xs) : SqL K H' a xs := e.seq h
theorem walkD_list {F : Hp} {p : Addr} {vs : List V} {ds : List PyData} (h : RdL K F p vs) (q : DqAll K F vs ds) : WalkD K F (Itl K p) ds := by
  refine ⟨fun H => SqL K H p vs, YAt vs, ?_, fun H s => (rdlMono s h).sql, fun i H x H' F1 hi y m s => ?_⟩
  · rw [← dpAll_len q]
    exact walk_list
  · obtain ⟨rfl, e⟩ := y
    obtain ⟨d, e2, q2⟩ := dpAll_get' q e
    exact ⟨F1, Same.refl _, s, Same.refl _, .refl _, fun _ z => .inl z, d, e2, dpMono m d q2⟩
theorem walkD_tup {F : Hp} {p : Addr} {vs : List V} {ds : List PyData} (h : SqT K F p vs) (q : DqAll K F vs ds) : WalkD K F (Itt K p) ds := by
  refine ⟨fun H => SqT K H p vs, YAt vs, ?_, fun H s => sqtMono s h, fun i H x H' F1 hi y m s => ?_⟩
  · rw [← dpAll_len q]
    exact walk_tup
  · obtain ⟨rfl, e⟩ := y
    obtain ⟨d, e2, q2⟩ := dpAll_get' q e
    exact ⟨F1, Same.refl _, s, Same.refl _, .refl _, fun _ z => .inl z, d, e2, dpMono m d q2⟩
theorem rngD_len (lo : Int) (n : Nat) : (rngD lo n).length = n := by
  unfold rngD
  rw [List.length_map, List.length_range]
theorem rngD_get {lo : Int} {n i : Nat} (h : i < n) : (rngD lo n)[i]? = some (.int (lo + i)) := by
  unfold rngD
  rw [List.getElem?_map, List.getElem?_range h]
  rfl
theorem walkD_range {F : Hp} (lo : Int) (n : Nat) : WalkD K F (Itr lo n) (rngD lo n) := by
  refine ⟨fun _ => True, YFn fun i => .int (lo + i), ?_, fun _ _ => trivial, fun i H x H' F1 hi y m s => ?_⟩
  · rw [rngD_len]
    exact walk_range
  · obtain ⟨rfl, rfl⟩ := y
    rw [rngD_len] at hi
    exact ⟨F1, Same.refl _, s, Same.refl _, .refl _, fun _ z => .inl z, _, rngD_get hi, .int _⟩
theorem dwnD_len (lo : Int) (n : Nat) : (dwnD lo n).length = n := by
  unfold dwnD
  rw [List.length_map, List.length_range]
theorem dwnD_get {lo : Int} {n i : Nat} (h : i < n) : (dwnD lo n)[i]? = some (.int (lo + (i : Nat) * -1)) := by
  unfold dwnD
  rw [List.getElem?_map, List.getElem?_range h]
  rfl
theorem walkD_down {F : Hp} (lo : Int) (n : Nat) : WalkD K F (Itc lo (-1) n) (dwnD lo n) := by
  refine ⟨fun _ => True, YFn fun i => .int (lo + (i : Nat) * -1), ?_, fun _ _ => trivial, fun i H x H' F1 hi y m s => ?_⟩
  · rw [dwnD_len]
    exact walk_rangeC
  · obtain ⟨rfl, rfl⟩ := y
    rw [dwnD_len] at hi
    exact ⟨F1, Same.refl _, s, Same.refl _, .refl _, fun _ z => .inl z, _, dwnD_get hi, .int _⟩
theorem pairStep {H H' F1 : Hp} {x : V} {a b : V} {da db : PyData} {T : Addr} (hx : x = .ref T) (hT : H T = none) (hH : H' = upd H T (.tup [a, b])) (s : Same F1 H) (qa : Dq K F1 a da) (qb : Dq K F1 b db) :
    ∃ F2, Same F1 F2 ∧ Same F2 H' ∧ Same H H' ∧ NFS H H' ∧ (∀ c, F2 c ≠ none → F1 c ≠ none ∨ H c = none) ∧ Dq K F2 x (.tuple [da, db]) := by
  subst hx hH
  have fT : F1 T = none := s.free hT
  have m1 : Same F1 (upd F1 T (.tup [a, b])) := same_upd1 fT
  refine ⟨upd F1 T (.tup [a, b]), m1, fun c o e => ?_, same_upd1 hT, .upd .tup, fun c h => ?_, .tup (.inl (.inl upd_same)) (dpAllMono m1 _ (.cons qa (.cons qb .nil)))⟩
  · by_cases hc : c = T
    · subst hc
      rw [upd_same] at e ⊢
      exact e
    · rw [upd_ne hc] at e ⊢
      exact s c o e
  · by_cases hc : c = T
    · subst hc
      exact .inr hT
    · rw [upd_ne hc] at h
      exact .inl h
theorem tripStep {H H' F1 : Hp} {x : V} {a b c : V} {da db dc : PyData} {T : Addr} (hx : x = .ref T) (hT : H T = none) (hH : H' = upd H T (.tup [a, b, c])) (s : Same F1 H) (qa : Dq K F1 a da) (qb : Dq K F1 b db) (qc : Dq K F1 c dc) :
    ∃ F2, Same F1 F2 ∧ Same F2 H' ∧ Same H H' ∧ NFS H H' ∧ (∀ c, F2 c ≠ none → F1 c ≠ none ∨ H c = none) ∧ Dq K F2 x (.tuple [da, db, dc]) := by
  subst hx hH
  have fT : F1 T = none := s.free hT
  have m1 : Same F1 (upd F1 T (.tup [a, b, c])) := same_upd1 fT
  refine ⟨upd F1 T (.tup [a, b, c]), m1, fun c o e => ?_, same_upd1 hT, .upd .tup, fun c h => ?_, .tup (.inl (.inl upd_same)) (dpAllMono m1 _ (.cons qa (.cons qb (.cons qc .nil))))⟩
  · by_cases hc : c = T
    · subst hc
      rw [upd_same] at e ⊢
      exact e
    · rw [upd_ne hc] at e ⊢
      exact s c o e
  · by_cases hc : c = T
    · subst hc
      exact .inr hT
    · rw [upd_ne hc] at h
      exact .inl h
theorem zip3D_len : ∀ (xs ys zs : List PyData), (zip3D xs ys zs).length = min (min xs.length ys.length) zs.length
  | [], ys, zs => by simp [zip3D]
  | x :: xs, [], zs => by simp [zip3D]
  | x :: xs, y :: ys, [] => by simp [zip3D]
  | x :: xs, y :: ys, z :: zs => by
    unfold zip3D
    rw [List.length_cons, zip3D_len xs ys zs, List.length_cons, List.length_cons, List.length_cons]
    omega
theorem zip3D_get : ∀ {xs ys zs : List PyData} {i : Nat} {a b c : PyData}, xs[i]? = some a → ys[i]? = some b → zs[i]? = some c → (zip3D xs ys zs)[i]? = some (.tuple [a, b, c])
  | [], _, _, _, _, _, _, h, _, _ => by simp at h
  | _ :: _, [], _, _, _, _, _, _, h, _ => by simp at h
  | _ :: _, _ :: _, [], _, _, _, _, _, _, h => by simp at h
  | x :: xs, y :: ys, z :: zs, 0, a, b, c, h1, h2, h3 => by
    cases h1
    cases h2
    cases h3
    rfl
  | x :: xs, y :: ys, z :: zs, i + 1, a, b, c, h1, h2, h3 => zip3D_get (xs := xs) (ys := ys) (zs := zs) (i := i) h1 h2 h3
theorem zipD_len : ∀ (xs ys : List PyData), (zipD xs ys).length = min xs.length ys.length
  | [], ys => by simp [zipD]
  | x :: xs, [] => by simp [zipD]
  | x :: xs, y :: ys => by
    unfold zipD
    rw [List.length_cons, zipD_len xs ys, List.length_cons, List.length_cons]
    omega
theorem zipD_get : ∀ {xs ys : List PyData} {i : Nat} {a b : PyData}, xs[i]? = some a → ys[i]? = some b → (zipD xs ys)[i]? = some (.tuple [a, b])
  | [], _, _, _, _, h, _ => by simp at h
  | _ :: _, [], _, _, _, _, h => by simp at h
  | x :: xs, y :: ys, 0, a, b, h1, h2 => by
    cases h1
    cases h2
    rfl
  | x :: xs, y :: ys, i + 1, a, b, h1, h2 => zipD_get (xs := xs) (ys := ys) (i := i) h1 h2
theorem walkD_zipL {F : Hp} {p p2 : Addr} {vs ws : List V} {ds es : List PyData} (h : RdL K F p vs) (q : DqAll K F vs ds) (h2 : RdL K F p2 ws) (q2 : DqAll K F ws es) : WalkD K F (Itz K p p2) (zipD ds es) := by
  refine ⟨fun H => SqL K H p vs ∧ SqL K H p2 ws, YPair (fun i => vs[i]?) (fun i => ws[i]?), ?_, fun H s => ⟨(rdlMono s h).sql, (rdlMono s h2).sql⟩, fun i H x H' F1 hi y m s => ?_⟩
  · exact walk_zip (by rw [zipD_len, dpAll_len q, dpAll_len q2])
  · obtain ⟨T, a, b, e1, e2, e3, e4, e5⟩ := y
    obtain ⟨da, g1, k1⟩ := dpAll_get' q e4
    obtain ⟨db, g2, k2⟩ := dpAll_get' q2 e5
    obtain ⟨F2, c1, c2, c3, cn, c4, c5⟩ := pairStep e1 e2 e3 s (dpMono m _ k1) (dpMono m _ k2)
    exact ⟨F2, c1, c2, c3, cn, c4, _, zipD_get g1 g2, c5⟩
theorem enumD_len : ∀ (i : Nat) (xs : List PyData), (enumD i xs).length = xs.length
  | _, [] => rfl
  | i, x :: xs => by
    unfold enumD
    rw [List.length_cons, enumD_len (i + 1) xs, List.length_cons]
theorem enumD_get : ∀ {j : Nat} {xs : List PyData} {i : Nat} {a : PyData}, xs[i]? = some a → (enumD j xs)[i]? = some (.tuple [.int ((j + i : Nat) : Int), a])
  | _, [], _, _, h => by simp at h
  | j, x :: xs, 0, a, h => by
    cases h
    rfl
  | j, x :: xs, i + 1, a, h => by
    have := enumD_get (j := j + 1) (xs := xs) (i := i) (a := a) (by simpa using h)
    unfold enumD
    rw [List.getElem?_cons_succ, this, show j + 1 + i = j + (i + 1) by omega]
theorem walkD_enumL {F : Hp} {p : Addr} {vs : List V} {ds : List PyData} (h : RdL K F p vs) (q : DqAll K F vs ds) : WalkD K F (Ite K p) (enumD 0 ds) := by
  refine ⟨fun H => SqL K H p vs, YPair (fun i => some (.int (i : Nat))) (fun i => vs[i]?), ?_, fun H s => (rdlMono s h).sql, fun i H x H' F1 hi y m s => ?_⟩
  · rw [enumD_len, ← dpAll_len q]
    exact walk_enum
  · obtain ⟨T, a, b, e1, e2, e3, e4, e5⟩ := y
    have e4' : V.int (i : Nat) = a := Option.some.inj e4
    subst e4'
    obtain ⟨db, g2, k2⟩ := dpAll_get' q e5
    obtain ⟨F2, c1, c2, c3, cn, c4, c5⟩ := pairStep e1 e2 e3 s (.int (i : Nat)) (dpMono m _ k2)
    refine ⟨F2, c1, c2, c3, cn, c4, _, enumD_get g2, ?_⟩
    rw [Nat.zero_add]
    exact c5
end
end PF

set_option maxHeartbeats 2000000
/-! PFZ: zip of lists and tuples in any mix, two and three. -/
namespace PF
open PySem PySem.Spec PyProof.Rows L2
/-- a list (k) or a tuple -/
def SqA (K : PySem.W.Frag) (k : Bool) (H : Hp) (a : Addr) (xs : List V) : Prop := match k with | true => SqL K H a xs | false => SqT K H a xs
def ItrA (k : Bool) (h : Heap) (i a : Addr) (n : Nat) : Prop := match k with | true => h.IsListIter i a n | false => h.IsTupleIter i a n
def SeqA (k : Bool) (h : Heap) (a : Addr) (its : Array Value) : Prop := match k with | true => h.IsList a its | false => h.IsTuple a its
def objA (k : Bool) (a : Addr) : Obj := match k with
  | true => { cls := .type "list_iterator", data := .fields #[.ref a, .int 0 0] }
  | false => { cls := .type "tuple_iterator", data := .fields #[.ref a, .int 0 0] }
theorem beginsA (k : Bool) (a : Addr) (its : Array Value) : Begins (.ref a) (objA k a) fun h => SeqA k h a its := by
  cases k
  · exact begins_tuple a its
  · exact begins_list a its
theorem drawsA {prog : Program} {w : World} {A : Around} (hh : A.handled = none) (k : Bool) (it a : Addr) (hne : a ≠ it) (its : Array Value) :
    Draws prog w A it [it, a] its.size (fun i v => its[i]? = some v) (fun i h => ItrA k h it a i ∧ SeqA k h a its) := by
  cases k
  · exact Draws.tuple hh it a hne its
  · exact Draws.list hh it a hne its
theorem ItrA.new {k : Bool} {h : Heap} {i a : Addr} (e : h.get? i = some (objA k a)) : ItrA k h i a 0 := by
  cases k
  · exact ⟨_, e, rfl, rfl⟩
  · exact ⟨_, e, rfl, rfl⟩
theorem ItrA.step {k : Bool} {h h' : Heap} {i a : Addr} {n : Nat} (x : ItrA k h i a n) (e : ∀ o, h.get? i = some o → h'.get? i = some o) : ItrA k h' i a n := by
  cases k
  · exact Heap.IsTupleIter.at x e
  · exact Heap.IsListIter.at x e
theorem ItrA.obj {k : Bool} {h : Heap} {i a : Addr} {n : Nat} (x : ItrA k h i a n) : ∃ o, h.get? i = some o ∧ ∀ v, o.data ≠ .cell v := by
  cases k
  · obtain ⟨o, e, _, d⟩ := x
    exact ⟨o, e, fun v q => by rw [d] at q; cases q⟩
  · obtain ⟨o, e, _, d⟩ := x
    exact ⟨o, e, fun v q => by rw [d] at q; cases q⟩
section
variable {X : Cx} {pins : List (Addr × Obj)} {σ : L2.St} {H : Hp} {s : Shared}
theorem seqA_of {k : Bool} {a : Addr} {xs : List V} (I : Inv X pins σ H s) (h : SqA X.K k H a xs) : ∃ its : List Value, Vals xs its ∧ SeqA k s.heap a its.toArray ∧ a < s.heap.objs.size := by
  cases k
  · obtain ⟨its, rv, p, _⟩ := I.tuple h
    have p' : s.heap.IsTuple a its.toArray := p
    obtain ⟨o, e, _⟩ := id p'
    exact ⟨its, rv, p', Heap.lt_size e⟩
  · obtain ⟨its, rv, p, _⟩ := I.list h
    exact ⟨its, rv, p.isList, p.lt⟩
theorem sqA_inj {k : Bool} {a : Addr} {xs ys : List V} (I : Inv X pins σ H s) (h : SqA X.K k H a xs) (h' : SqA X.K k H a ys) : xs = ys := by
  cases k
  · exact I.tuple_inj h h'
  · exact I.list_inj h h'
end
/-- sorted(set(a tuple of ints)), fewer than 60 -/
def tSrs (K : PySem.W.Frag) (ta : TE) : TE := fun σ H Q => ta σ H fun x H1 => ∃ (l : Addr) (ns : List Int), x = V.ref l ∧ SqT K H1 l (ns.map V.int) ∧ ns.length < 60 ∧
  ∀ (ms : List Int) (p : Addr), ms.Pairwise (· < ·) → (∀ k : Int, k ∈ ms ↔ k ∈ ns) → H1 p = none → Q (.ref p) (upd H1 p (.lst (ms.map V.int)))
theorem pe_srs {X : Cx} {a : Expr} {ta : TE} {p p2 q pos : Pos} (hg : Gl X "sorted") (hm : X.mg "sorted" = none) (hg2 : Gl X "set") (hm2 : X.mg "set" = none) (ha : PE X a ta) (hc : X.calm = true)
    (na : starEach [a] X.env = (false, eval a X.env) :: starEach [] X.env) : PE X (.Call (.Name "sorted" p) [.Call (.Name "set" p2) [a] [] q] [] pos) (tSrs X.K ta) := by
  refine ⟨fun pins s σ H Q I h => ?_⟩
  refine Call_ (ld_blt I hg hm PyProof.Rows.boot_sorted ?_)
  refine PyProof.Rows.callWith_builtin1 (PyProof.Rows.args_cons ?_ rfl) rfl rfl
  refine Call_ (ld_blt I hg2 hm2 PyProof.Rows.boot_set ?_)
  refine PyProof.Rows.callWith_type1 (PyProof.Rows.args_cons (thn (ha.run pins s σ H _ I h) fun v s1 ⟨x, H1, I1, r1, q1⟩ => PyProof.Rows.args_nil ?_) na) na rfl
  obtain ⟨l, ns, rfl, hq, hl, q1⟩ := q1
  cases r1
  obtain ⟨its, r, pl, hz⟩ := I1.tuple hq
  have hi := r.ints
  refine call_set_tupI (ns := ns) (I1.ok.hd hc) (show s1.heap.IsTuple l its.toArray from pl) (by simpa using hi) (by unfold scanBound; omega) fun h' tk c hS hcn hk => ?_
  have I2 : Inv X pins σ H1 { s1 with heap := h', toks := tk } := I1.kept fun b o e => hk b o e
  have hS2 : SetR X.w ({ s1 with heap := h', toks := tk } : Shared).heap s1.heap.objs.size (fun j => decide (j ∈ ns)) c := hS
  refine PyProof.Rows.args_nil ?_
  clear hS hk
  generalize ({ s1 with heap := h', toks := tk } : Shared) = s2 at I2 hS2 ⊢
  refine sorted_set hS2 (I2.ok.hd hc) (by omega) fun s' p out c2 ms k g o hp hg hi hs hm hl => ?_
  have hlen : (ms.map V.int).length ≤ sizeLine := by rw [List.length_map, hl, sizeLine_eq]; omega
  have hn : H1 p = none := I2.hok.fresh hp
  have J : Inv X pins σ (upd H1 p (.lst (ms.map V.int))) { s2 with heap := s'.heap, gens := s'.gens, drawn := s'.drawn, toks := s'.toks } :=
    I2.call (ch := []) (Un.laid k hp hn) (I2.hok.laid k hp ⟨hlen, out.toList, c2, vals_of_ints hi, hg⟩) (by rw [g]; exact I2.bare) (fun _ z => nomatch z)
  have e : s' = { s2 with heap := s'.heap, gens := s'.gens, drawn := s'.drawn, toks := s'.toks } := by
    cases s'
    cases s2
    cases o
    rfl
  rw [e]
  exact ⟨.ref p, _, J, rfl, q1 ms p hs (fun k => by rw [hm k]; exact decide_eq_true_iff) hn⟩
/-- two, the items in new pairs -/
def ItM (K : PySem.W.Frag) (k1 k2 : Bool) (a b : Addr) : It :=
  ⟨fun i H => ∃ (xs ys : List V) (x y : V), SqA K k1 H a xs ∧ SqA K k2 H b ys ∧ xs[i]? = some x ∧ ys[i]? = some y,
    fun i H v H' => ∃ T x y, v = .ref T ∧ H T = none ∧ H' = upd H T (.tup [x, y]) ∧ (∀ xs, SqA K k1 H a xs → xs[i]? = some x) ∧ ∀ ys, SqA K k2 H b ys → ys[i]? = some y,
    fun i H => ∃ xs ys : List V, SqA K k1 H a xs ∧ SqA K k2 H b ys ∧ i = min xs.length ys.length⟩
theorem turnM {P : Program} {w : World} {K : PySem.W.Frag} {elts : List Expr} {kk : Nat} {tpos : Pos} {k1 k2 : Bool} {a b z TI TO i1 i2 : Addr} (D : ZipSep2 z TI TO i1 i2 [i1, a] [i2, b]) (n1 : a ≠ i1) (n2 : b ≠ i2) :
    Turn P w K (.Tuple elts kk tpos) (ItM K k1 k2 a b) [z, TI, TO, i1, i2] z (fun i h => IsZip h z TI TO .none ∧ IsTupOf2 h TI (.ref i1) (.ref i2) ∧ (∃ x y, IsTupOf2 h TO x y) ∧ ItrA k1 h i1 a i ∧ ItrA k2 h i2 b i) where
  mem := by simp
  obj := fun i h st c hc => by
    obtain ⟨hz, hTI, ⟨x, y, hTO⟩, h1, h2⟩ := st
    have e' : c = z ∨ c = TI ∨ c = TO ∨ c = i1 ∨ c = i2 := by simpa using hc
    rcases e' with q | q | q | q | q
    · rw [q]; exact ⟨_, hz, fun v q => nomatch q⟩
    · rw [q]; exact ⟨_, hTI, fun v q => nomatch q⟩
    · rw [q]; exact ⟨_, hTO, fun v q => nomatch q⟩
    · rw [q]; exact h1.obj
    · rw [q]; exact h2.obj
  keep := fun i h h' st k => by
    obtain ⟨hz, hTI, ⟨x, y, hTO⟩, h1, h2⟩ := st
    exact ⟨k z (by simp) _ hz, k TI (by simp) _ hTI, ⟨x, y, k TO (by simp) _ hTO⟩, h1.step fun o q => k i1 (by simp) o q, h2.step fun o q => k i2 (by simp) o q⟩
  item := by
    intro X hP hw hK hc i pins s σ H E I hf st hg
    subst hP hw hK
    obtain ⟨hz, hTI, ⟨x0, y0, hTO⟩, h1, h2⟩ := st
    obtain ⟨xs, ys, x, y, hqx, hqy, hx, hy⟩ := hg
    obtain ⟨its, rv, p, _⟩ := seqA_of I hqx
    obtain ⟨its2, rv2, p2, _⟩ := seqA_of I hqy
    obtain ⟨u, hu, ru⟩ := rv.get hx
    obtain ⟨u2, hu2, ru2⟩ := rv2.get hy
    have hzl : z < s.heap.objs.size := Heap.lt_size hz
    have hin : X.A.in1.handled = none := I.ok.hd hc
    have g1 : i < its.toArray.size := by
      obtain ⟨q, _⟩ := List.getElem?_eq_some_iff.mp hu
      simpa using q
    have g2 : i < its2.toArray.size := by
      obtain ⟨q, _⟩ := List.getElem?_eq_some_iff.mp hu2
      simpa using q
    refine wpAny_pyNext_zipD2_item D (drawsA hin k1 i1 a n1 its.toArray) (drawsA hin k2 i2 b n2 its2.toArray) hz hTI hTO ⟨h1, p⟩ ⟨h2, p2⟩ g1 g2 fun w1 w2 h' tk e1 e2 z' TO' st1 st2 hT hsz hk => ?_
    have e1' : w1 = u := by
      have q : its.toArray[i]? = some w1 := e1
      rw [List.getElem?_toArray, hu] at q
      exact (Option.some.inj q).symm
    have e2' : w2 = u2 := by
      have q : its2.toArray[i]? = some w2 := e2
      rw [List.getElem?_toArray, hu2] at q
      exact (Option.some.inj q).symm
    subst e1' e2'
    refine ⟨_, rfl, wpAny_letOwnedTupleGo_zip (s := { s with heap := h', toks := tk }) z' fun h'' z'' sb => ?_⟩
    have hT2 : h''.get? s.heap.objs.size = some { cls := .type "tuple", data := .seq #[w1, w2] } := (sb.2 _ (Nat.ne_of_gt hzl)).trans hT
    have new : ObjOk X.prog X.w (upd H s.heap.objs.size (.tup [x, y])) h'' s.heap.objs.size (.tup [x, y]) :=
      ⟨by show 2 ≤ sizeLine; decide, [w1, w2], .cons ru (.cons ru2 .nil), ⟨_, hT2, rfl, _, rfl⟩⟩
    have I1 : Inv X pins σ (upd H s.heap.objs.size (.tup [x, y])) { s with heap := h'', toks := tk } :=
      I.turnedNew (t' := tk) (ch := [z, TI, TO, i1, i2]) (fun c o hb q => (sb.2 c (fun q' => hb (by simp [q']))).trans (hk c o (fun q' => hb (by simp [q'])) (fun q' => hb (by simp [q'])) (fun q' => hb (by simp [q'])) (fun q' => hb (by simp [q'])) q)) hf (Nat.le_refl _) new
    have iz1 : i1 ≠ z := fun q => D.zi1 q.symm
    have iz2 : i2 ≠ z := fun q => D.zi2 q.symm
    refine ⟨.ref s.heap.objs.size, _, I1, rfl, ⟨_, x, y, rfl, I.hok.fresh (Nat.le_refl _), rfl, fun l hl => by rw [sqA_inj I hl hqx]; exact hx, fun l hl => by rw [sqA_inj I hl hqy]; exact hy⟩, ⟨z'', ?_, ⟨w1, w2, ?_⟩, ?_, ?_⟩, fun c hcm => ?_⟩
    · exact (sb.2 _ D.TIz).trans (hk _ _ D.TIz D.TITO D.TIi1 D.TIi2 hTI)
    · exact (sb.2 _ D.TOz).trans TO'
    · exact st1.1.step fun o q => (sb.2 _ iz1).trans q
    · exact st2.1.step fun o q => (sb.2 _ iz2).trans q
    · have hlt : c < s.heap.objs.size := by
        have e' : c = z ∨ c = TI ∨ c = TO ∨ c = i1 ∨ c = i2 := by simpa using hcm
        rcases e' with q | q | q | q | q
        · rw [q]; exact hzl
        · rw [q]; exact Heap.lt_size hTI
        · rw [q]; exact Heap.lt_size hTO
        · rw [q]; obtain ⟨_, e1, _⟩ := h1.obj; exact Heap.lt_size e1
        · rw [q]; obtain ⟨_, e2, _⟩ := h2.obj; exact Heap.lt_size e2
      rw [upd_ne (Nat.ne_of_lt hlt)]
      exact (hf c hcm).1
  done := by
    intro X hP hw hK hc i pins s σ H E I hf st hg
    subst hP hw hK
    obtain ⟨hz, hTI, ⟨x0, y0, hTO⟩, h1, h2⟩ := st
    obtain ⟨xs, ys, hqx, hqy, hend⟩ := hg
    obtain ⟨its, rv, p, _⟩ := seqA_of I hqx
    obtain ⟨its2, rv2, p2, _⟩ := seqA_of I hqy
    have l1 := rv.length
    have l2 := rv2.length
    have hin : X.A.in1.handled = none := I.ok.hd hc
    have m1 : its.toArray.size = its.length := by simp
    have m2 : its2.toArray.size = its2.length := by simp
    exact wpAny_pyNext_zipD2_end D (drawsA hin k1 i1 a n1 its.toArray) (drawsA hin k2 i2 b n2 its2.toArray) hz hTI hTO ⟨h1, p⟩ ⟨h2, p2⟩ (by omega) (by omega) (by omega) fun h' tk hk => ⟨rfl, I.turnedL (t' := tk) (ch := [z, TI, TO, i1, i2]) (fun c o hb q =>
      hk c o (fun q' => hb (by simp [q'])) (fun q' => hb (by simp [q'])) (fun q' => hb (by simp [q'])) (fun q' => hb (by simp [q'])) q) hf⟩
  self := fun A i s Q E st h => wpAny_pyIter_zip st.1 h
theorem notIn2 {x i a : Nat} (h1 : x ≠ i) (h2 : x ≠ a) : (x : Addr) ∉ ([i, a] : List Addr) := fun m => by
  rcases List.mem_cons.mp m with q | m
  · exact h1 q
  · rcases List.mem_cons.mp m with q | m
    · exact h2 q
    · cases m
theorem neAd {a b : Nat} (h : a ≠ b) : (a : Addr) ≠ b := h
theorem sep2_new (I a b : Nat) (h1 : a < I) (h2 : b < I) : ZipSep2 (I + 4) (I + 2) (I + 3) I (I + 1) [I, a] [I + 1, b] := by
  constructor <;> first | exact List.mem_cons_self .. | exact notIn2 (by omega) (by omega) | (refine neAd ?_; omega)
def iZipM (K : PySem.W.Frag) (ta : TA) : TI := fun σ H R => ta σ H fun vs H1 => ∃ a b xs ys k1 k2, vs = [.ref a, .ref b] ∧ SqA K k1 H1 a xs ∧ SqA K k2 H1 b ys ∧ R (ItM K k1 k2 a b) H1
theorem pi_zipM {X : Cx} {e e2 : Expr} {ta : TA} {p pos tpos : Pos} {elts : List Expr} {kk : Nat} (hg : Gl X "zip") (hm : X.mg "zip" = none) (ha : PA X [e, e2] ta)
    (hs : starEach [e, e2] X.env = (false, eval e X.env) :: starEach [e2] X.env := by rfl) (hpl : (backTo pos (starEach [e2] X.env)).any (·.1) = false := by rfl) :
    PI X (.Tuple elts kk tpos) (.Call (.Name "zip" p) [e, e2] [] pos) (iZipM X.K ta) := by
  refine ⟨fun pins s σ H R I h => ?_⟩
  refine Call_ (ld_blt I hg hm PyProof.Rows.boot_zip (PyProof.Rows.callWith_type1 (thn (ha.run pos pins s σ H _ I h) fun us s1 ⟨vs, H1, I1, r1, q1⟩ => ?_) hs hpl))
  obtain ⟨a, b, xs, ys, k1, k2, ex, hqx, hqy, q⟩ := q1
  subst ex
  cases r1 with
  | cons r rr =>
    cases rr with
    | cons r' rr =>
      cases rr
      cases r
      cases r'
      have fresh5 : ∀ c, c ∈ [s1.heap.objs.size + 4, s1.heap.objs.size + 2, s1.heap.objs.size + 3, s1.heap.objs.size, s1.heap.objs.size + 1] → FpOk X pins H1 c := fun c hcm => by
        have e' : c = s1.heap.objs.size + 4 ∨ c = s1.heap.objs.size + 2 ∨ c = s1.heap.objs.size + 3 ∨ c = s1.heap.objs.size ∨ c = s1.heap.objs.size + 1 := by simpa using hcm
        have hle : s1.heap.objs.size ≤ c := by
          rcases e' with z | z | z | z | z
          · rw [z]; exact Nat.le_add_right _ _
          · rw [z]; exact Nat.le_add_right _ _
          · rw [z]; exact Nat.le_add_right _ _
          · rw [z]; exact Nat.le_refl _
          · rw [z]; exact Nat.le_add_right _ _
        exact I1.fpOk hle (I1.hok.fresh hle)
      obtain ⟨its, rv, p1, la⟩ := seqA_of I1 hqx
      obtain ⟨its2, rv2, p2, lb⟩ := seqA_of I1 hqy
      refine zip_begins2 (beginsA k1 a its.toArray) (beginsA k2 b its2.toArray) p1 p2 fun h' hz hTI hTO h1 h2 hsz hk => wpAny_pyIter_zip hz ?_
      have I2 : Inv X pins σ H1 { s1 with heap := h' } := I1.kept (t' := s1.toks) hk
      exact ⟨s1.heap.objs.size + 4, [s1.heap.objs.size + 4, s1.heap.objs.size + 2, s1.heap.objs.size + 3, s1.heap.objs.size, s1.heap.objs.size + 1], _, _, H1, rfl, I2, turnM (sep2_new s1.heap.objs.size a b la lb) (Nat.ne_of_lt la) (Nat.ne_of_lt (Nat.lt_succ_of_lt lb)), ⟨hz, hTI, ⟨_, _, hTO⟩, .new h1, .new h2⟩, fresh5, q⟩
/-- three, the items in new triples -/
def ItM3 (K : PySem.W.Frag) (k1 k2 k3 : Bool) (a b c : Addr) : It :=
  ⟨fun i H => ∃ (xs ys zs : List V) (x y z : V), SqA K k1 H a xs ∧ SqA K k2 H b ys ∧ SqA K k3 H c zs ∧ xs[i]? = some x ∧ ys[i]? = some y ∧ zs[i]? = some z,
    fun i H v H' => ∃ T x y z, v = .ref T ∧ H T = none ∧ H' = upd H T (.tup [x, y, z]) ∧ (∀ xs, SqA K k1 H a xs → xs[i]? = some x) ∧ (∀ ys, SqA K k2 H b ys → ys[i]? = some y) ∧ ∀ zs, SqA K k3 H c zs → zs[i]? = some z,
    fun i H => ∃ xs ys zs : List V, SqA K k1 H a xs ∧ SqA K k2 H b ys ∧ SqA K k3 H c zs ∧ i = min (min xs.length ys.length) zs.length⟩
theorem turnM3 {P : Program} {w : World} {K : PySem.W.Frag} {elts : List Expr} {kk : Nat} {tpos : Pos} {k1 k2 k3 : Bool} {a b c z TI TO i1 i2 i3 : Addr} (D : ZipSep3 z TI TO i1 i2 i3 [i1, a] [i2, b] [i3, c]) (n1 : a ≠ i1) (n2 : b ≠ i2) (n3 : c ≠ i3) :
    Turn P w K (.Tuple elts kk tpos) (ItM3 K k1 k2 k3 a b c) [z, TI, TO, i1, i2, i3] z (fun i h => IsZip h z TI TO .none ∧ IsTupOf3 h TI (.ref i1) (.ref i2) (.ref i3) ∧ (∃ x y v, IsTupOf3 h TO x y v) ∧ ItrA k1 h i1 a i ∧ ItrA k2 h i2 b i ∧ ItrA k3 h i3 c i) where
  mem := by simp
  obj := fun i h st c' hc => by
    obtain ⟨hz, hTI, ⟨x, y, v, hTO⟩, h1, h2, h3⟩ := st
    have e' : c' = z ∨ c' = TI ∨ c' = TO ∨ c' = i1 ∨ c' = i2 ∨ c' = i3 := by simpa using hc
    rcases e' with q | q | q | q | q | q
    · rw [q]; exact ⟨_, hz, fun v q => nomatch q⟩
    · rw [q]; exact ⟨_, hTI, fun v q => nomatch q⟩
    · rw [q]; exact ⟨_, hTO, fun v q => nomatch q⟩
    · rw [q]; exact h1.obj
    · rw [q]; exact h2.obj
    · rw [q]; exact h3.obj
  keep := fun i h h' st k => by
    obtain ⟨hz, hTI, ⟨x, y, v, hTO⟩, h1, h2, h3⟩ := st
    exact ⟨k z (by simp) _ hz, k TI (by simp) _ hTI, ⟨x, y, v, k TO (by simp) _ hTO⟩, h1.step fun o q => k i1 (by simp) o q, h2.step fun o q => k i2 (by simp) o q, h3.step fun o q => k i3 (by simp) o q⟩
  item := by
    intro X hP hw hK hc i pins s σ H E I hf st hg
    subst hP hw hK
    obtain ⟨hz, hTI, ⟨x0, y0, v0, hTO⟩, h1, h2, h3⟩ := st
    obtain ⟨xs, ys, zs, x, y, v, hqx, hqy, hqz, hx, hy, hv⟩ := hg
    obtain ⟨its, rv, p, _⟩ := seqA_of I hqx
    obtain ⟨its2, rv2, p2, _⟩ := seqA_of I hqy
    obtain ⟨its3, rv3, p3, _⟩ := seqA_of I hqz
    obtain ⟨u, hu, ru⟩ := rv.get hx
    obtain ⟨u2, hu2, ru2⟩ := rv2.get hy
    obtain ⟨u3, hu3, ru3⟩ := rv3.get hv
    have hzl : z < s.heap.objs.size := Heap.lt_size hz
    have hin : X.A.in1.handled = none := I.ok.hd hc
    have g1 : i < its.toArray.size := by
      obtain ⟨q, _⟩ := List.getElem?_eq_some_iff.mp hu
      simpa using q
    have g2 : i < its2.toArray.size := by
      obtain ⟨q, _⟩ := List.getElem?_eq_some_iff.mp hu2
      simpa using q
    have g3 : i < its3.toArray.size := by
      obtain ⟨q, _⟩ := List.getElem?_eq_some_iff.mp hu3
      simpa using q
    refine wpAny_pyNext_zipD3_item D (drawsA hin k1 i1 a n1 its.toArray) (drawsA hin k2 i2 b n2 its2.toArray) (drawsA hin k3 i3 c n3 its3.toArray) hz hTI hTO ⟨h1, p⟩ ⟨h2, p2⟩ ⟨h3, p3⟩ g1 g2 g3 fun w1 w2 w3 h' tk e1 e2 e3 z' TO' st1 st2 st3 hT hsz hk => ?_
    have e1' : w1 = u := by
      have q : its.toArray[i]? = some w1 := e1
      rw [List.getElem?_toArray, hu] at q
      exact (Option.some.inj q).symm
    have e2' : w2 = u2 := by
      have q : its2.toArray[i]? = some w2 := e2
      rw [List.getElem?_toArray, hu2] at q
      exact (Option.some.inj q).symm
    have e3' : w3 = u3 := by
      have q : its3.toArray[i]? = some w3 := e3
      rw [List.getElem?_toArray, hu3] at q
      exact (Option.some.inj q).symm
    subst e1' e2' e3'
    refine ⟨_, rfl, wpAny_letOwnedTupleGo_zip (s := { s with heap := h', toks := tk }) z' fun h'' z'' sb => ?_⟩
    have hT2 : h''.get? s.heap.objs.size = some { cls := .type "tuple", data := .seq #[w1, w2, w3] } := (sb.2 _ (Nat.ne_of_gt hzl)).trans hT
    have new : ObjOk X.prog X.w (upd H s.heap.objs.size (.tup [x, y, v])) h'' s.heap.objs.size (.tup [x, y, v]) :=
      ⟨by show 3 ≤ sizeLine; decide, [w1, w2, w3], .cons ru (.cons ru2 (.cons ru3 .nil)), ⟨_, hT2, rfl, _, rfl⟩⟩
    have I1 : Inv X pins σ (upd H s.heap.objs.size (.tup [x, y, v])) { s with heap := h'', toks := tk } :=
      I.turnedNew (t' := tk) (ch := [z, TI, TO, i1, i2, i3]) (fun c' o hb q => (sb.2 c' (fun q' => hb (by simp [q']))).trans (hk c' o (fun q' => hb (by simp [q'])) (fun q' => hb (by simp [q'])) (fun q' => hb (by simp [q'])) (fun q' => hb (by simp [q'])) (fun q' => hb (by simp [q'])) q)) hf (Nat.le_refl _) new
    have iz1 : i1 ≠ z := fun q => D.zi1 q.symm
    have iz2 : i2 ≠ z := fun q => D.zi2 q.symm
    have iz3 : i3 ≠ z := fun q => D.zi3 q.symm
    refine ⟨.ref s.heap.objs.size, _, I1, rfl, ⟨_, x, y, v, rfl, I.hok.fresh (Nat.le_refl _), rfl, fun l hl => by rw [sqA_inj I hl hqx]; exact hx, fun l hl => by rw [sqA_inj I hl hqy]; exact hy, fun l hl => by rw [sqA_inj I hl hqz]; exact hv⟩, ⟨z'', ?_, ⟨w1, w2, w3, ?_⟩, ?_, ?_, ?_⟩, fun c' hcm => ?_⟩
    · exact (sb.2 _ D.TIz).trans (hk _ _ D.TIz D.TITO D.TIi1 D.TIi2 D.TIi3 hTI)
    · exact (sb.2 _ D.TOz).trans TO'
    · exact st1.1.step fun o q => (sb.2 _ iz1).trans q
    · exact st2.1.step fun o q => (sb.2 _ iz2).trans q
    · exact st3.1.step fun o q => (sb.2 _ iz3).trans q
    · have hlt : c' < s.heap.objs.size := by
        have e' : c' = z ∨ c' = TI ∨ c' = TO ∨ c' = i1 ∨ c' = i2 ∨ c' = i3 := by simpa using hcm
        rcases e' with q | q | q | q | q | q
        · rw [q]; exact hzl
        · rw [q]; exact Heap.lt_size hTI
        · rw [q]; exact Heap.lt_size hTO
        · rw [q]; obtain ⟨_, e1, _⟩ := h1.obj; exact Heap.lt_size e1
        · rw [q]; obtain ⟨_, e2, _⟩ := h2.obj; exact Heap.lt_size e2
        · rw [q]; obtain ⟨_, e3, _⟩ := h3.obj; exact Heap.lt_size e3
      rw [upd_ne (Nat.ne_of_lt hlt)]
      exact (hf c' hcm).1
  done := by
    intro X hP hw hK hc i pins s σ H E I hf st hg
    subst hP hw hK
    obtain ⟨hz, hTI, ⟨x0, y0, v0, hTO⟩, h1, h2, h3⟩ := st
    obtain ⟨xs, ys, zs, hqx, hqy, hqz, hend⟩ := hg
    obtain ⟨its, rv, p, _⟩ := seqA_of I hqx
    obtain ⟨its2, rv2, p2, _⟩ := seqA_of I hqy
    obtain ⟨its3, rv3, p3, _⟩ := seqA_of I hqz
    have l1 := rv.length
    have l2 := rv2.length
    have l3 := rv3.length
    have hin : X.A.in1.handled = none := I.ok.hd hc
    have m1 : its.toArray.size = its.length := by simp
    have m2 : its2.toArray.size = its2.length := by simp
    have m3 : its3.toArray.size = its3.length := by simp
    exact wpAny_pyNext_zipD3_end D (drawsA hin k1 i1 a n1 its.toArray) (drawsA hin k2 i2 b n2 its2.toArray) (drawsA hin k3 i3 c n3 its3.toArray) hz hTI hTO ⟨h1, p⟩ ⟨h2, p2⟩ ⟨h3, p3⟩ (by omega) (by omega) (by omega) (by omega) fun h' tk hk => ⟨rfl, I.turnedL (t' := tk) (ch := [z, TI, TO, i1, i2, i3]) (fun c' o hb q =>
      hk c' o (fun q' => hb (by simp [q'])) (fun q' => hb (by simp [q'])) (fun q' => hb (by simp [q'])) (fun q' => hb (by simp [q'])) (fun q' => hb (by simp [q'])) q) hf⟩
  self := fun A i s Q E st h => wpAny_pyIter_zip st.1 h
theorem sep3_new (I a b c : Nat) (h1 : a < I) (h2 : b < I) (h3 : c < I) : ZipSep3 (I + 5) (I + 3) (I + 4) I (I + 1) (I + 2) [I, a] [I + 1, b] [I + 2, c] := by
  constructor <;> first | exact List.mem_cons_self .. | exact notIn2 (by omega) (by omega) | (refine neAd ?_; omega)
def iZipM3 (K : PySem.W.Frag) (ta : TA) : TI := fun σ H R => ta σ H fun vs H1 => ∃ a b c xs ys zs k1 k2 k3, vs = [.ref a, .ref b, .ref c] ∧ SqA K k1 H1 a xs ∧ SqA K k2 H1 b ys ∧ SqA K k3 H1 c zs ∧ R (ItM3 K k1 k2 k3 a b c) H1
theorem pi_zipM3 {X : Cx} {e e2 e3 : Expr} {ta : TA} {p pos tpos : Pos} {elts : List Expr} {kk : Nat} (hg : Gl X "zip") (hm : X.mg "zip" = none) (ha : PA X [e, e2, e3] ta)
    (hs : starEach [e, e2, e3] X.env = (false, eval e X.env) :: starEach [e2, e3] X.env := by rfl) (hpl : (backTo pos (starEach [e2, e3] X.env)).any (·.1) = false := by rfl) :
    PI X (.Tuple elts kk tpos) (.Call (.Name "zip" p) [e, e2, e3] [] pos) (iZipM3 X.K ta) := by
  refine ⟨fun pins s σ H R I h => ?_⟩
  refine Call_ (ld_blt I hg hm PyProof.Rows.boot_zip (PyProof.Rows.callWith_type1 (thn (ha.run pos pins s σ H _ I h) fun us s1 ⟨vs, H1, I1, r1, q1⟩ => ?_) hs hpl))
  obtain ⟨a, b, c, xs, ys, zs, k1, k2, k3, ex, hqx, hqy, hqz, q⟩ := q1
  subst ex
  cases r1 with
  | cons r rr =>
    cases rr with
    | cons r' rr =>
      cases rr with
      | cons r'' rr =>
        cases rr
        cases r
        cases r'
        cases r''
        have fresh6 : ∀ c', c' ∈ [s1.heap.objs.size + 5, s1.heap.objs.size + 3, s1.heap.objs.size + 4, s1.heap.objs.size, s1.heap.objs.size + 1, s1.heap.objs.size + 2] → FpOk X pins H1 c' := fun c' hcm => by
          have e' : c' = s1.heap.objs.size + 5 ∨ c' = s1.heap.objs.size + 3 ∨ c' = s1.heap.objs.size + 4 ∨ c' = s1.heap.objs.size ∨ c' = s1.heap.objs.size + 1 ∨ c' = s1.heap.objs.size + 2 := by simpa using hcm
          have hle : s1.heap.objs.size ≤ c' := by
            rcases e' with z | z | z | z | z | z
            · rw [z]; exact Nat.le_add_right _ _
            · rw [z]; exact Nat.le_add_right _ _
            · rw [z]; exact Nat.le_add_right _ _
            · rw [z]; exact Nat.le_refl _
            · rw [z]; exact Nat.le_add_right _ _
            · rw [z]; exact Nat.le_add_right _ _
          exact I1.fpOk hle (I1.hok.fresh hle)
        obtain ⟨its, rv, p1, la⟩ := seqA_of I1 hqx
        obtain ⟨its2, rv2, p2, lb⟩ := seqA_of I1 hqy
        obtain ⟨its3, rv3, p3, lc⟩ := seqA_of I1 hqz
        refine zip_begins3 (beginsA k1 a its.toArray) (beginsA k2 b its2.toArray) (beginsA k3 c its3.toArray) p1 p2 p3 fun h' hz hTI hTO h1 h2 h3 hsz hk => wpAny_pyIter_zip hz ?_
        have I2 : Inv X pins σ H1 { s1 with heap := h' } := I1.kept (t' := s1.toks) hk
        exact ⟨s1.heap.objs.size + 5, [s1.heap.objs.size + 5, s1.heap.objs.size + 3, s1.heap.objs.size + 4, s1.heap.objs.size, s1.heap.objs.size + 1, s1.heap.objs.size + 2], _, _, H1, rfl, I2, turnM3 (sep3_new s1.heap.objs.size a b c la lb lc) (Nat.ne_of_lt la) (Nat.ne_of_lt (Nat.lt_succ_of_lt lb)) (Nat.ne_of_lt (Nat.lt_succ_of_lt (Nat.lt_succ_of_lt lc))), ⟨hz, hTI, ⟨_, _, _, hTO⟩, .new h1, .new h2, .new h3⟩, fresh6, q⟩
end PF

/-! PF6: readings of the small language, one lemma a form. -/
namespace PF
open PySem PySem.Spec PyProof.Rows L2
section
variable (K : PySem.W.Frag) (Γ : Tab) (C : List (Str × PyData))
def HV (σ : L2.St) (F : Hp) (v : V) : Hd → Prop
  | .d z => Dq K F v z
  | .s i => σ[i]? = some (some v)
def rE (e : IE) : TE := fun σ H Q => ∃ G F env r env', Rel K G σ H F env ∧ runE Γ C e env = some (r, env') ∧ ∀ v H' F', Rel K G σ H' F' env' → Ext K σ env H F H' F' env' → RV K H H' F' v r → Q v H'
def rH (e : IE) : TE := fun σ H Q => ∃ G F env h env', Rel K G σ H F env ∧ hd e (runE Γ C e env) env = some (h, env') ∧ ∀ v H' F', Rel K G σ H' F' env' → Ext K σ env H F H' F' env' → HV K σ F' v h → Q v H'
def rT (t : IT) : TT := fun σ H Q => ∃ G F env b env', Rel K G σ H F env ∧ runT Γ C t env = some (b, env') ∧ ∀ H' F', Rel K G σ H' F' env' → Ext K σ env H F H' F' env' → Q b H'
def rO (o : IO) : TO := fun σ H Q => ∃ G F env r env', Rel K G σ H F env ∧ runO Γ C o env = some (r, env') ∧ ∀ H' F', Rel K G σ H' F' env' → Ext K σ env H F H' F' env' → Q r H'
def rL (es : IL) : TA := fun σ H Q => ∃ G F env hs env', Rel K G σ H F env ∧ runL Γ C es env = some (hs, env') ∧ ∀ vs H' F', Rel K G σ H' F' env' → Ext K σ env H F H' F' env' → Paired (HV K σ F') vs hs → Q vs H'
def rV (es : IL) : TA := fun σ H Q => ∃ G F env hs env', Rel K G σ H F env ∧ runV Γ C es env = some (hs, env') ∧ ∀ vs H' F', Rel K G σ H' F' env' → Ext K σ env H F H' F' env' → Paired (HV K σ F') vs hs → Q vs H'
def rI (it : II) : TI := fun σ H R => ∃ G F env ds env', Rel K G σ H F env ∧ runI Γ C it env = some (ds, env') ∧ ∀ J H' F', Rel K G σ H' F' env' → Ext K σ env H F H' F' env' → WalkD K F' J ds → R J H'
def rG (g : IG) : TG := fun v σ H Q => ∃ G F env d env', Rel K G σ H F env ∧ Dq K F v d ∧ runG g d env = some env' ∧
  ∀ σ', Rel K G σ' H F env' → σ'.length = σ.length → (∀ i, i ∉ slotsG g → σ'[i]? = σ[i]?) → (∀ b, Own σ' env' b → Own σ env b) → Q σ' H
def rGs (gs : IGs) : TGs := fun vs σ H Q => ∃ G F env ds env', Rel K G σ H F env ∧ DqAll K F vs ds ∧ runGs gs ds env = some env' ∧
  ∀ σ', Rel K G σ' H F env' → σ'.length = σ.length → (∀ i, i ∉ slotsGs gs → σ'[i]? = σ[i]?) → (∀ b, Own σ' env' b → Own σ env b) → Q σ' H
end
section
variable {K : PySem.W.Frag} {G : Gh} {σ : L2.St} {H F H' F' : Hp} {env env' : En}
theorem obind {α β : Type} {o : Option α} {f : α → Option β} {y : β} (h : o.bind f = some y) : ∃ x, o = some x ∧ f x = some y := Option.bind_eq_some_iff.mp h
theorem RV.back {H1 : Hp} {v : V} {r : Sl} (q : RV K H1 H' F' v r) (l : ∀ b, H b ≠ none → H1 b ≠ none) : RV K H H' F' v r := by
  cases r with
  | v d => exact q
  | b ds => exact q
  | o ds =>
    obtain ⟨p, vs, e, h1, h2, h3, h4⟩ := q
    refine ⟨p, vs, e, ?_, h2, h3, h4⟩
    cases z : H p with
    | none => rfl
    | some o => exact absurd h1 (l p (by rw [z]; simp))
  | w ds =>
    obtain ⟨p, vs, e, h1, h2, h3, h4⟩ := q
    refine ⟨p, vs, e, ?_, h2, h3, h4⟩
    cases z : H p with
    | none => rfl
    | some o => exact absurd h1 (l p (by rw [z]; simp))
theorem made_of {H2 F2 : Hp} {env2 : En} {r : Sl} {Q : VK} (E : Ext K σ env H F H2 F2 env2) (R2 : Rel K G σ H2 F2 env2)
    (k : ∀ v H' F', Rel K G σ H' F' env2 → Ext K σ env H F H' F' env2 → RV K H H' F' v r → Q v H') : Made K H2 F2 r Q := fun v H' F' m1 m2 m3 nf fr q => by
  obtain ⟨R3, E3⟩ := R2.grow m1 m2 m3 nf fr
  exact k v H' F' R3 (E.trans E3) (q.back E.live)
theorem HV.mono {v : V} {h : Hd} (m : Same F F') (q : HV K σ F v h) : HV K σ F' v h := by
  cases h with
  | d z => exact dpMono m z q
  | s i => exact q
theorem HV.opd (R : Rel K G σ H F env) {v : V} {h : Hd} {d : PyData} (q : HV K σ F v h) (e : h.get env = some d) : Opd K F H v d := by
  cases h with
  | d z =>
    cases e
    exact .inl q
  | s i =>
    have e : (env.at i).bind Sl.lk = some d := e
    cases e2 : env.at i with
    | none =>
      rw [e2] at e
      cases e
    | some s =>
      rw [e2] at e
      have q' : σ[i]? = some (some v) := q
      cases s with
      | v d =>
        cases e
        obtain ⟨w, a, k⟩ := R.val i d e2
        rw [q'] at a
        cases a
        exact .inl k
      | o ds =>
        cases e
        obtain ⟨p, vs, a, f, hp, k, _⟩ := R.mu i _ ds e2 rfl
        rw [q'] at a
        cases a
        exact .inr (.inl ⟨p, vs, ds, rfl, rfl, hp, k⟩)
      | b ds =>
        cases e
        obtain ⟨p, vs, a, f, hp, k, _⟩ := R.mu i _ ds e2 rfl
        rw [q'] at a
        cases a
        exact .inr (.inl ⟨p, vs, ds, rfl, rfl, hp, k⟩)
      | w ds =>
        cases e
        obtain ⟨p, vs, a, f, hp, k, _⟩ := R.muD i _ ds e2 rfl
        rw [q'] at a
        cases a
        exact .inr (.inr ⟨p, vs, ds, rfl, rfl, hp, k⟩)
theorem paired_mono {α β : Type} {A B : α → β → Prop} (f : ∀ a b, A a b → B a b) : ∀ {l : List α} {m : List β}, Paired A l m → Paired B l m
  | _, _, .nil => .nil
  | _, _, .cons a t => .cons (f _ _ a) (paired_mono f t)
theorem opdAll_of (R : Rel K G σ H F env) : ∀ {vs : List V} {hs : List Hd} {ds : List PyData}, Paired (HV K σ F) vs hs → getL env hs = some ds → Paired (Opd K F H) vs ds
  | _, _, _, .nil, e => by
    cases e
    exact .nil
  | _, h :: hs, _, .cons q t, e => by
    unfold getL at e
    obtain ⟨d, e1, e⟩ := obind e
    obtain ⟨es, e2, e⟩ := obind e
    cases e
    exact .cons (q.opd R e1) (opdAll_of R t e2)
theorem dqAll_of : ∀ {vs : List V} {hs : List Hd} {ds : List PyData}, Paired (HV K σ F) vs hs → getD hs = some ds → DqAll K F vs ds
  | _, _, _, .nil, e => by
    cases e
    exact .nil
  | _, .d z :: hs, _, .cons q t, e => by
    unfold getD at e
    obtain ⟨es, e2, e⟩ := obind e
    cases e
    exact .cons q (dqAll_of t e2)
  | _, .s i :: hs, _, .cons q t, e => by cases e
theorem setv_own {i : Nat} {d : PyData} {v : V} (hl : env.length = σ.length) (h : env.put i (.v d) = some env') (b : Addr) (z : Own (σ.set i (some v)) env' b) : Own σ env b := by
  obtain ⟨rfl, _⟩ := put_inv h
  obtain ⟨j, s, ds, e, hm, g⟩ := z
  rw [at_set] at e
  by_cases hj : i = j ∧ i < env.length
  · rw [if_pos hj] at e
    cases e
    cases hm
  · rw [if_neg hj] at e
    refine ⟨j, s, ds, e, hm, ?_⟩
    rw [st_get, if_neg fun z => hj ⟨z, by rw [z]; exact at_lt e⟩] at g
    exact g
def ArgsP (K : PySem.W.Frag) (σ : L2.St) (H F : Hp) (env : En) (k : Bool) (vs : List V) (hs : List Hd) (as : List Sl) : Prop :=
    Paired (ArgR K F H) vs as ∧ (k = true → ∀ (i : Nat) (d : List PyData), as[i]? = some (.b d) → False) ∧ (∀ (i j : Nat) (d e : List PyData), as[i]? = some (.b d) → as[j]? = some (.b e) → i = j) ∧
    (∀ p, LentAt vs as p → ∃ i s ds, lentS hs = some i ∧ env.at i = some s ∧ s.m = some (.l ds) ∧ σ[i]? = some (some (.ref p))) ∧
    (∀ i, lentS hs = some i → ∃ p s ds, env.at i = some s ∧ s.m = some (.l ds) ∧ σ[i]? = some (some (.ref p)) ∧ LentAt vs as p)
/-- the callers' arguments -/
theorem args_of (R : Rel K G σ H F env) : ∀ {k : Bool} {vs : List V} {hs : List Hd} {as : List Sl}, Paired (HV K σ F) vs hs → getA env k hs = some as → ArgsP K σ H F env k vs hs as := by
  intro k vs hs
  induction hs generalizing k vs with
  | nil =>
    intro as h e
    cases h
    cases e
    exact ⟨.nil, fun _ i d z => by simp at z, fun i j d e z => by simp at z, fun p ⟨i, ds, z, _⟩ => by simp at z, fun i z => by cases z⟩
  | cons h hs ih =>
    intro as q e
    cases q with
    | @cons v _ vs _ q t =>
      cases h with
      | d z =>
        have e : (getA env k hs).bind (fun ds => some (Sl.v z :: ds)) = some as := by cases k <;> exact e
        obtain ⟨bs, e1, e⟩ := obind e
        cases e
        obtain ⟨i1, i2, i3, i4, i5⟩ := ih t e1
        refine ⟨.cons q i1, fun hk i d y => ?_, fun i j d e y1 y2 => ?_, fun p ⟨i, ds, y1, y2⟩ => ?_, fun i y => ?_⟩
        · cases i with
          | zero => cases y
          | succ i => exact i2 hk i d y
        · cases i with
          | zero => cases y1
          | succ i =>
            cases j with
            | zero => cases y2
            | succ j => exact congrArg (· + 1) (i3 i j d e y1 y2)
        · cases i with
          | zero => cases y1
          | succ i => exact i4 p ⟨i, ds, y1, y2⟩
        · obtain ⟨p, s, ds, a1, a2, a3, j, es, b1, b2⟩ := i5 i y
          exact ⟨p, s, ds, a1, a2, a3, j + 1, es, b1, b2⟩
      | s i0 =>
        cases k with
        | true => cases e
        | false =>
          have q' : σ[i0]? = some (some v) := q
          have main : ∀ (s : Sl) (ds : List PyData), env.at i0 = some s → s.m = some (.l ds) → (getA env true hs).bind (fun l => some (Sl.b ds :: l)) = some as → ArgsP K σ H F env false (v :: vs) (Hd.s i0 :: hs) as := fun s ds e0 hm e => by
            obtain ⟨bs, e1, e⟩ := obind e
            cases e
            obtain ⟨p, ws, a, f, hp, dq, _⟩ := R.mu i0 s ds e0 hm
            rw [q'] at a
            cases a
            obtain ⟨i1, i2, i3, i4, i5⟩ := ih t e1
            have P1 : Paired (ArgR K F H) (V.ref p :: vs) (Sl.b ds :: bs) := .cons ⟨p, ws, rfl, f, hp, dq⟩ i1
            have P2 : (false = true → ∀ (i : Nat) (d : List PyData), (Sl.b ds :: bs)[i]? = some (.b d) → False) := fun z => nomatch z
            have P3 : ∀ (i j : Nat) (d e : List PyData), (Sl.b ds :: bs)[i]? = some (.b d) → (Sl.b ds :: bs)[j]? = some (.b e) → i = j := fun i j d e y1 y2 => by
              cases i with
              | zero =>
                cases j with
                | zero => rfl
                | succ j => exact (i2 rfl j e y2).elim
              | succ i => exact (i2 rfl i d y1).elim
            have P4 : ∀ p', LentAt (V.ref p :: vs) (Sl.b ds :: bs) p' → ∃ i s ds, lentS (Hd.s i0 :: hs) = some i ∧ env.at i = some s ∧ s.m = some (.l ds) ∧ σ[i]? = some (some (.ref p')) := fun p' ⟨i, es, y1, y2⟩ => by
              cases i with
              | zero =>
                cases y2
                exact ⟨i0, s, ds, rfl, e0, hm, q'⟩
              | succ i => exact (i2 rfl i es y1).elim
            have P5 : ∀ i, lentS (Hd.s i0 :: hs) = some i → ∃ p' s ds', env.at i = some s ∧ s.m = some (.l ds') ∧ σ[i]? = some (some (.ref p')) ∧ LentAt (V.ref p :: vs) (Sl.b ds :: bs) p' := fun i y => by
              cases y
              exact ⟨p, s, ds, e0, hm, q', 0, ds, rfl, rfl⟩
            exact And.intro P1 (And.intro P2 (And.intro P3 (And.intro P4 P5)))
          unfold getA at e
          split at e
          · rename_i ds e0
            exact main _ ds e0 rfl e
          · rename_i ds e0
            exact main _ ds e0 rfl e
          · cases e
end
end PF

/-! PF7: the forms of expressions, one lemma each. -/
namespace PF
open PySem PySem.Spec PyProof.Rows L2
section
variable {X : Cx} {C : Cfg} {S : Sc} {Γ : Tab} {n : Nat}
theorem h_gen {a : IE} {z : Expr} (hne : ∀ (r : RE) (env : En), hd a r env = r.bind fun p => some (.d p.1.d, p.2)) (p : PE X z (rE X.K Γ C.cons a)) : PE X z (rH X.K Γ C.cons a) := by
  refine pe_mono p fun σ H Q ⟨G, F, env, h, env', R, e, k⟩ => ?_
  rw [hne] at e
  obtain ⟨r, e1, e⟩ := obind e
  cases e
  refine ⟨G, F, env, r.1, r.2, R, e1, fun v H' F' R' E' q => ?_⟩
  obtain ⟨F2, R2, E2, q2⟩ := R.settle R' E' q
  exact k v H' F2 R2 E2 q2
theorem nm_val {K : PySem.W.Frag} {G : Gh} {σ : L2.St} {H F : Hp} {env : En} (R : Rel K G σ H F env) {i : Nat} (h : (env.at i).isSome = true) : ∃ v, σ[i]? = some (some v) := by
  cases e : env.at i with
  | none =>
    rw [e] at h
    cases h
  | some s =>
    cases s with
    | v d =>
      obtain ⟨v, a, _⟩ := R.val i d e
      exact ⟨v, a⟩
    | o ds =>
      obtain ⟨p, _, a, _⟩ := R.mu i _ ds e rfl
      exact ⟨_, a⟩
    | b ds =>
      obtain ⟨p, _, a, _⟩ := R.mu i _ ds e rfl
      exact ⟨_, a⟩
    | w ds =>
      obtain ⟨p, _, a, _⟩ := R.muD i _ ds e rfl
      exact ⟨_, a⟩
theorem h_of (hC : COk X C Γ n) (hS : SOk X S) {a : IE} {z : Expr} (h : chkE C S a [z] none = true) (p : PE X z (rE X.K Γ C.cons a)) : PE X z (rH X.K Γ C.cons a) := by
  cases a with
  | x i =>
    cases z with
    | Name y pos =>
      refine pe_mono (pe_nm hC hS h) fun σ H Q ⟨G, F, env, h, env', R, e, k⟩ => ?_
      unfold hd at e
      simp only at e
      split at e
      · rename_i hs
        cases e
        obtain ⟨v, a⟩ := nm_val R hs
        exact ⟨v, a, k v H F R Ext.refl a⟩
      · cases e
    | _ => exact absurd h Bool.false_ne_true
  | _ => exact h_gen (fun _ _ => rfl) p
theorem f_k {d : PyData} {c : Const} {j : Nat} {p : Pos} (h : (match constD c with
      | some d' => eqFlat d d'
      | none => false) = true) : PE X (.Constant c j p) (rE X.K Γ C.cons (.k d)) := by
  cases c with
  | none =>
    cases d <;> first | exact absurd h Bool.false_ne_true | skip
    exact pe_mono pe_non fun σ H Q ⟨G, F, env, h, env', R, e, k⟩ => by
      cases e
      exact k _ H F R Ext.refl .non
  | bool b =>
    cases d <;> first | exact absurd h Bool.false_ne_true | skip
    rename_i b'
    cases (show b' = b from eq_of_beq h)
    exact pe_mono pe_bl fun σ H Q ⟨G, F, env, h, env', R, e, k⟩ => by
      cases e
      exact k _ H F R Ext.refl (.bl _)
  | int i =>
    cases d <;> first | exact absurd h Bool.false_ne_true | skip
    rename_i i'
    cases (show i' = i from of_decide_eq_true h)
    exact pe_mono pe_int fun σ H Q ⟨G, F, env, h, env', R, e, k⟩ => by
      cases e
      exact k _ H F R Ext.refl (.int _)
  | str x =>
    cases d <;> first | exact absurd h Bool.false_ne_true | skip
    rename_i x'
    cases (show x' = x from of_decide_eq_true h)
    exact pe_mono pe_str fun σ H Q ⟨G, F, env, h, env', R, e, k⟩ => by
      cases e
      exact k _ H F R Ext.refl (.str _)
  | float _ => exact absurd h Bool.false_ne_true
  | complex _ _ => exact absurd h Bool.false_ne_true
  | bytes _ => exact absurd h Bool.false_ne_true
  | ellipsis => exact absurd h Bool.false_ne_true
theorem f_x (hC : COk X C Γ n) (hS : SOk X S) {i : Nat} {y : Str} {p : Pos} (h : nmS C S i y = true) : PE X (.Name y p) (rE X.K Γ C.cons (.x i)) := by
  refine pe_mono (pe_nm hC hS h) fun σ H Q ⟨G, F, env, r, env', R, e, k⟩ => ?_
  have e : useI env i = some (r, env') := e
  unfold useI at e
  split at e
  · rename_i d e0
    cases e
    obtain ⟨v, a, q⟩ := R.val i d e0
    exact ⟨v, a, k v H F R Ext.refl q⟩
  · rename_i ds e0
    cases e
    obtain ⟨p, vs, a, R2, E2, q⟩ := R.useO e0
    exact ⟨_, a, k _ _ _ R2 E2 q⟩
  · rename_i ds e0
    cases e
    obtain ⟨p, vs, a, R2, E2, q⟩ := R.useM e0
    exact ⟨_, a, k _ _ _ R2 E2 q⟩
  · cases e
theorem f_g (hC : COk X C Γ n) (hS : SOk X S) {x : Str} {p : Pos} (hg : glS S x = true) (hn : okN x = true) : PE X (.Name x p) (rE X.K Γ C.cons (.g x)) := by
  cases e0 : C.cons.lookup x with
  | none =>
    refine ⟨fun pins s σ H Q I ⟨G, F, env, r, env', R, e, k⟩ => ?_⟩
    have e : (C.cons.lookup x).bind (fun d => some (Sl.v d, env)) = some (r, env') := e
    rw [e0] at e
    cases e
  | some d =>
    obtain ⟨u, v, hm, rv, q⟩ := hC.cons x d e0
    refine pe_mono (pe_glob (gl_of hS hg) hm rv (okN_1 hn)) fun σ H Q ⟨G, F, env, r, env', R, e, k⟩ => ?_
    have e : (C.cons.lookup x).bind (fun d => some (Sl.v d, env)) = some (r, env') := e
    rw [e0] at e
    cases e
    exact k v H F R Ext.refl (q F)
/-- two operands, then an operation -/
theorem two_ops {K : PySem.W.Frag} {cons : List (Str × PyData)} {a b : IE} {σ : L2.St} {H : Hp} {R : V → V → Hp → Prop} {G : Gh} {F : Hp} {env : En} {p q : Hd × En} (R0 : Rel K G σ H F env)
    (e1 : hd a (runE Γ cons a env) env = some p) (e2 : hd b (runE Γ cons b p.2) p.2 = some q)
    (k : ∀ v w H2 F2, Rel K G σ H2 F2 q.2 → Ext K σ env H F H2 F2 q.2 → HV K σ F2 v p.1 → HV K σ F2 w q.1 → R v w H2) :
    rH K Γ cons a σ H fun v H1 => rH K Γ cons b σ H1 fun w H2 => R v w H2 := by
  refine ⟨G, F, env, p.1, p.2, R0, e1, fun v H1 F1 R1 E1 q1 => ⟨G, F1, p.2, q.1, q.2, R1, e2, fun w H2 F2 R2 E2 q2 => ?_⟩⟩
  exact k v w H2 F2 R2 (E1.trans E2) (q1.mono E2.mono) q2
theorem f_bin (hC : COk X C Γ n) {op : Operator} {a b : IE} {x y : Expr} {pos : Pos} (ha : PE X x (rH X.K Γ C.cons a)) (hb : PE X y (rH X.K Γ C.cons b)) : PE X (.BinOp x op y pos) (rE X.K Γ C.cons (.bin op a b)) := by
  refine pe_mono (pe_op (op_bin op) ha hb) fun σ H Q ⟨G, F, env, r, env', R, e, k⟩ => ?_
  obtain ⟨p, e1, e⟩ := obind e
  obtain ⟨q, e2, e⟩ := obind e
  obtain ⟨x, e3, e⟩ := obind e
  obtain ⟨y, e4, e⟩ := obind e
  obtain ⟨z, e5, e⟩ := obind e
  cases e
  exact two_ops R e1 e2 fun v w H2 F2 R2 E2 q1 q2 => ⟨F2, _, _, _, R2.sub, q1.opd R2 e3, q2.opd R2 e4, e5, made_of E2 R2 k⟩
theorem f_neg {a : IE} {x : Expr} {pos : Pos} (ha : PE X x (rH X.K Γ C.cons a)) : PE X (.UnaryOp .USub x pos) (rE X.K Γ C.cons (.neg a)) := by
  refine pe_mono (pe_un un_neg ha) fun σ H Q ⟨G, F, env, r, env', R, e, k⟩ => ?_
  obtain ⟨p, e1, e⟩ := obind e
  obtain ⟨d, e2, e⟩ := obind e
  obtain ⟨z, e3, e⟩ := obind e
  cases e
  refine ⟨G, F, env, p.1, p.2, R, e1, fun v H1 F1 R1 E1 q1 => ?_⟩
  cases d <;> first | cases e3 | skip
  cases opd_int (q1.opd R1 e2)
  exact ⟨_, rfl, k _ _ _ R1 E1 (.int _)⟩
theorem f_not {a : IE} {x : Expr} {pos : Pos} (ha : PE X x (rH X.K Γ C.cons a)) : PE X (.UnaryOp .Not x pos) (rE X.K Γ C.cons (.not a)) := by
  refine pe_mono (pe_notT ha) fun σ H Q ⟨G, F, env, r, env', R, e, k⟩ => ?_
  obtain ⟨p, e1, e⟩ := obind e
  obtain ⟨d, e2, e⟩ := obind e
  obtain ⟨z, e3, e⟩ := obind e
  obtain ⟨t, e4, e3⟩ := obind e3
  cases e
  cases e3
  exact ⟨G, F, env, p.1, p.2, R, e1, fun v H1 F1 R1 E1 q1 => ⟨t, opd_tru R1.sub (q1.opd R1 e2) e4, k _ _ _ R1 E1 (.bl _)⟩⟩
theorem f_and {a b : IE} {x y : Expr} {r : List Expr} {pos : Pos} (ha : PE X x (rE X.K Γ C.cons a)) (hb : PE X (.BoolOp .And (y :: r) pos) (rE X.K Γ C.cons b)) : PE X (.BoolOp .And (x :: y :: r) pos) (rE X.K Γ C.cons (.and a b)) := by
  refine pe_mono (pe_andT ha hb) fun σ H Q ⟨G, F, env, r, env', R, e, k⟩ => ?_
  obtain ⟨p, e1, e⟩ := obind e
  obtain ⟨t, e2, e⟩ := obind e
  refine ⟨G, F, env, p.1, p.2, R, e1, fun v H1 F1 R1 E1 q1 => ?_⟩
  obtain ⟨F2, R2, E2, q2⟩ := R.settle R1 E1 q1
  refine ⟨t, opd_tru R2.sub (.inl q2) e2, ?_⟩
  cases t with
  | true => exact iteT ⟨G, F2, p.2, r, env', R2, e, fun w H3 F3 R3 E3 q3 => k w H3 F3 R3 (E2.trans E3) (q3.back E2.live)⟩
  | false =>
    cases e
    exact iteF (k v H1 F2 R2 E2 q2)
theorem f_or {a b : IE} {x y : Expr} {r : List Expr} {pos : Pos} (ha : PE X x (rE X.K Γ C.cons a)) (hb : PE X (.BoolOp .Or (y :: r) pos) (rE X.K Γ C.cons b)) : PE X (.BoolOp .Or (x :: y :: r) pos) (rE X.K Γ C.cons (.or a b)) := by
  refine pe_mono (pe_orT ha hb) fun σ H Q ⟨G, F, env, r, env', R, e, k⟩ => ?_
  obtain ⟨p, e1, e⟩ := obind e
  obtain ⟨t, e2, e⟩ := obind e
  refine ⟨G, F, env, p.1, p.2, R, e1, fun v H1 F1 R1 E1 q1 => ?_⟩
  obtain ⟨F2, R2, E2, q2⟩ := R.settle R1 E1 q1
  refine ⟨t, opd_tru R2.sub (.inl q2) e2, ?_⟩
  cases t with
  | false => exact iteF ⟨G, F2, p.2, r, env', R2, e, fun w H3 F3 R3 E3 q3 => k w H3 F3 R3 (E2.trans E3) (q3.back E2.live)⟩
  | true =>
    cases e
    exact iteT (k v H1 F2 R2 E2 q2)
theorem f_cmpR {a b : IE} {op : CmpOp} {σ : L2.St} {H : Hp} {Q : VK} (h : rE X.K Γ C.cons (.cmp op a b) σ H Q) : tOp (qCmp X.K op) (rH X.K Γ C.cons a) (rH X.K Γ C.cons b) σ H Q := by
  obtain ⟨G, F, env, r, env', R, e, k⟩ := h
  obtain ⟨p, e1, e⟩ := obind e
  obtain ⟨q, e2, e⟩ := obind e
  obtain ⟨x, e3, e⟩ := obind e
  obtain ⟨y, e4, e⟩ := obind e
  obtain ⟨z, e5, e⟩ := obind e
  cases e
  exact two_ops R e1 e2 fun v w H2 F2 R2 E2 q1 q2 => ⟨F2, x, y, z, R2.sub, q1.opd R2 e3, q2.opd R2 e4, e5, k _ _ _ R2 E2 (.bl _)⟩
theorem f_cmp (hC : COk X C Γ n) {op : CmpOp} {a b : IE} {x y : Expr} {pos : Pos} (ha : PE X x (rH X.K Γ C.cons a)) (hb : PE X y (rH X.K Γ C.cons b)) (py : plainA y = true) : PE X (.Compare x [op] [y] pos) (rE X.K Γ C.cons (.cmp op a b)) :=
  pe_mono (pe_cmpR (op_cmp hC.units op) ha hb (plain_marks py op)) fun _ _ _ h => f_cmpR h
theorem f_chR {a b c : IE} {op op' : CmpOp} {σ : L2.St} {H : Hp} {Q : VK} (h : rE X.K Γ C.cons (.ch op op' a b c) σ H Q) : tChain (qCmp X.K op) (qCmp X.K op') (rH X.K Γ C.cons a) (rH X.K Γ C.cons b) (rH X.K Γ C.cons c) σ H Q := by
  obtain ⟨G, F, env, r, env', R, e, k⟩ := h
  obtain ⟨p, e1, e⟩ := obind e
  obtain ⟨q, e2, e⟩ := obind e
  obtain ⟨x, e3, e⟩ := obind e
  obtain ⟨y, e4, e⟩ := obind e
  obtain ⟨z, e5, e⟩ := obind e
  refine two_ops R e1 e2 fun v w H2 F2 R2 E2 q1 q2 => ⟨F2, x, y, z, R2.sub, q1.opd R2 e3, q2.opd R2 e4, e5, z, rfl, ?_⟩
  cases z with
  | false =>
    cases e
    exact iteF (k _ _ _ R2 E2 (.bl _))
  | true =>
    obtain ⟨w3, e6, e⟩ := obind e
    obtain ⟨y', e7, e⟩ := obind e
    obtain ⟨z', e8, e⟩ := obind e
    obtain ⟨r', e9, e⟩ := obind e
    cases e
    refine iteT ⟨G, F2, q.2, w3.1, w3.2, R2, e6, fun u H3 F3 R3 E3 q3 => ⟨F3, y', z', r', R3.sub, (q2.mono E3.mono).opd R3 e7, q3.opd R3 e8, e9, k _ _ _ R3 (E2.trans E3) (.bl _)⟩⟩
theorem marks2 {y z : Expr} {op op' : CmpOp} (pz : plainA z = true) : lastMarks [op, op'] [y, z] = false := plain_marks pz op'
theorem f_ch (hC : COk X C Γ n) {op op' : CmpOp} {a b c : IE} {x y z : Expr} {pos : Pos} (ha : PE X x (rH X.K Γ C.cons a)) (hb : PE X y (rH X.K Γ C.cons b)) (hc : PE X z (rH X.K Γ C.cons c)) (pz : plainA z = true) :
    PE X (.Compare x [op, op'] [y, z] pos) (rE X.K Γ C.cons (.ch op op' a b c)) :=
  pe_mono (pe_chain (op_cmp hC.units op) (op_cmp hC.units op') ha hb hc (marks2 pz)) fun _ _ _ h => f_chR h
theorem f_chR3 {a b c d : IE} {op op' op'' : CmpOp} {σ : L2.St} {H : Hp} {Q : VK} (h : rE X.K Γ C.cons (.ch3 op op' op'' a b c d) σ H Q) : tChain3 (qCmp X.K op) (qCmp X.K op') (qCmp X.K op'') (rH X.K Γ C.cons a) (rH X.K Γ C.cons b) (rH X.K Γ C.cons c) (rH X.K Γ C.cons d) σ H Q := by
  obtain ⟨G, F, env, r, env', R, e, k⟩ := h
  obtain ⟨p, e1, e⟩ := obind e
  obtain ⟨q, e2, e⟩ := obind e
  obtain ⟨x, e3, e⟩ := obind e
  obtain ⟨y, e4, e⟩ := obind e
  obtain ⟨z, e5, e⟩ := obind e
  refine two_ops R e1 e2 fun v w H2 F2 R2 E2 q1 q2 => ⟨F2, x, y, z, R2.sub, q1.opd R2 e3, q2.opd R2 e4, e5, z, rfl, ?_⟩
  cases z with
  | false =>
    cases e
    exact iteF (k _ _ _ R2 E2 (.bl _))
  | true =>
    obtain ⟨w3, e6, e⟩ := obind e
    obtain ⟨y', e7, e⟩ := obind e
    obtain ⟨z', e8, e⟩ := obind e
    obtain ⟨r', e9, e⟩ := obind e
    refine iteT ⟨G, F2, q.2, w3.1, w3.2, R2, e6, fun u H3 F3 R3 E3 q3 => ⟨F3, y', z', r', R3.sub, (q2.mono E3.mono).opd R3 e7, q3.opd R3 e8, e9, r', rfl, ?_⟩⟩
    cases r' with
    | false =>
      cases e
      exact iteF (k _ _ _ R3 (E2.trans E3) (.bl _))
    | true =>
      obtain ⟨w4, e10, e⟩ := obind e
      obtain ⟨z2, e11, e⟩ := obind e
      obtain ⟨t, e12, e⟩ := obind e
      obtain ⟨r2, e13, e⟩ := obind e
      cases e
      exact iteT ⟨G, F3, w3.2, w4.1, w4.2, R3, e10, fun u2 H4 F4 R4 E4 q4 => ⟨F4, z2, t, r2, R4.sub, (q3.mono E4.mono).opd R4 e11, q4.opd R4 e12, e13, k _ _ _ R4 ((E2.trans E3).trans E4) (.bl _)⟩⟩
theorem marks3 {y z t : Expr} {op op' op'' : CmpOp} (pt : plainA t = true) : lastMarks [op, op', op''] [y, z, t] = false := plain_marks pt op''
theorem f_ch3 (hC : COk X C Γ n) {op op' op'' : CmpOp} {a b c d : IE} {x y z t : Expr} {pos : Pos} (ha : PE X x (rH X.K Γ C.cons a)) (hb : PE X y (rH X.K Γ C.cons b)) (hc : PE X z (rH X.K Γ C.cons c)) (hd : PE X t (rH X.K Γ C.cons d)) (pt : plainA t = true) :
    PE X (.Compare x [op, op', op''] [y, z, t] pos) (rE X.K Γ C.cons (.ch3 op op' op'' a b c d)) :=
  pe_mono (pe_chain3 (op_cmp hC.units op) (op_cmp hC.units op') (op_cmp hC.units op'') ha hb hc hd (marks3 pt)) fun _ _ _ h => f_chR3 h
theorem f_ife {t : IT} {a b : IE} {z x y : Expr} {pos : Pos} (ht : PT X z (rT X.K Γ C.cons t)) (ha : PE X x (rE X.K Γ C.cons a)) (hb : PE X y (rE X.K Γ C.cons b)) : PE X (.IfExp z x y pos) (rE X.K Γ C.cons (.ife t a b)) := by
  refine pe_mono (pe_ifExp ht ha hb) fun σ H Q ⟨G, F, env, r, env', R, e, k⟩ => ?_
  obtain ⟨p, e1, e⟩ := obind e
  refine ⟨G, F, env, p.1, p.2, R, e1, fun H1 F1 R1 E1 => ?_⟩
  cases h : p.1 with
  | true =>
    rw [h] at e
    exact iteT ⟨G, F1, p.2, r, env', R1, e, fun w H3 F3 R3 E3 q3 => k w H3 F3 R3 (E1.trans E3) (q3.back E1.live)⟩
  | false =>
    rw [h] at e
    exact iteF ⟨G, F1, p.2, r, env', R1, e, fun w H3 F3 R3 E3 q3 => k w H3 F3 R3 (E1.trans E3) (q3.back E1.live)⟩
theorem f_ix {a b : IE} {x y : Expr} {pos : Pos} (ha : PE X x (rH X.K Γ C.cons a)) (hb : PE X y (rH X.K Γ C.cons b)) (py : plainA y = true) : PE X (.Subscript x y pos) (rE X.K Γ C.cons (.ix a b)) := by
  refine pe_mono (pe_ix ix_ok ha hb (plain_ix py)) fun σ H Q ⟨G, F, env, r, env', R, e, k⟩ => ?_
  obtain ⟨p, e1, e⟩ := obind e
  obtain ⟨q, e2, e⟩ := obind e
  obtain ⟨x, e3, e⟩ := obind e
  obtain ⟨y, e4, e⟩ := obind e
  obtain ⟨z, e5, e⟩ := obind e
  cases e
  exact two_ops R e1 e2 fun v w H2 F2 R2 E2 q1 q2 => ⟨F2, x, y, z, R2.sub, q1.opd R2 e3, q2.opd R2 e4, e5, fun u qu => k u _ _ R2 E2 qu⟩
theorem f_sl {a : IE} {lo hi : IO} {x : Expr} {u w : Option Expr} {p2 pos : Pos} (ha : PE X x (rH X.K Γ C.cons a)) (hl : PO X u (rO X.K Γ C.cons lo)) (hh : PO X w (rO X.K Γ C.cons hi)) : PE X (.Subscript x (.Slice u w none p2) pos) (rE X.K Γ C.cons (.sl a lo hi)) := by
  refine pe_mono (pe_slice sl_ok ha hl hh) fun σ H Q ⟨G, F, env, r, env', R, e, k⟩ => ?_
  obtain ⟨p, e1, e⟩ := obind e
  obtain ⟨q, e2, e⟩ := obind e
  obtain ⟨w, e3, e⟩ := obind e
  obtain ⟨x, e4, e⟩ := obind e
  obtain ⟨z, e5, e⟩ := obind e
  cases e
  refine ⟨G, F, env, p.1, p.2, R, e1, fun v H1 F1 R1 E1 q1 => ⟨G, F1, p.2, q.1, q.2, R1, e2, fun H2 F2 R2 E2 => ⟨G, F2, q.2, w.1, w.2, R2, e3, fun H3 F3 R3 E3 => ?_⟩⟩⟩
  exact ⟨F3, _, _, R3.sub, (q1.mono (E2.mono.trans E3.mono)).opd R3 e4, e5, made_of (E1.trans (E2.trans E3)) R3 k⟩
theorem f_rv {a : IE} {x : Expr} {j : Nat} {p1 p2 p3 pos : Pos} (ha : PE X x (rH X.K Γ C.cons a)) : PE X (.Subscript x (.Slice none none (some (.UnaryOp .USub (.Constant (.int 1) j p1) p2)) p3) pos) (rE X.K Γ C.cons (.rv a)) := by
  refine pe_mono (pe_revA ha) fun σ H Q ⟨G, F, env, r, env', R, e, k⟩ => ?_
  obtain ⟨p, e1, e⟩ := obind e
  obtain ⟨d, e2, e⟩ := obind e
  obtain ⟨z, e3, e⟩ := obind e
  cases e
  refine ⟨G, F, env, p.1, p.2, R, e1, fun v H1 F1 R1 E1 q1 => ?_⟩
  cases d with
  | list ds =>
    cases e3
    obtain ⟨a, vs, rfl, h1, q2⟩ := opd_list R1.sub (q1.opd R1 e2)
    exact ⟨a, vs, rfl, .inl ⟨h1.sql, fun p hp => (made_of E1 R1 k).o R1.sub (dpAll_rev q2) hp⟩⟩
  | tuple ds =>
    cases e3
    obtain ⟨a, vs, rfl, h1, q2⟩ := opd_tup R1.sub (q1.opd R1 e2)
    exact ⟨a, vs, rfl, .inr ⟨h1, fun p hp => (made_of E1 R1 k).t R1.sub (dpAll_rev q2) hp⟩⟩
  | _ => cases e3
theorem insU_mem {k x : Int} : ∀ {l : List Int}, k ∈ insU x l ↔ k = x ∨ k ∈ l
  | [] => by simp [insU]
  | y :: r => by
    unfold insU
    split
    · rename_i e
      subst e
      simp
    · split
      · simp
      · simp only [List.mem_cons, insU_mem (l := r)]
        exact ⟨fun h => h.elim (fun h => .inr (.inl h)) fun h => h.elim .inl fun h => .inr (.inr h), fun h => h.elim (fun h => .inr (.inl h)) fun h => h.elim .inl fun h => .inr (.inr h)⟩
theorem ascU_mem {k : Int} : ∀ {l : List Int}, k ∈ ascU l ↔ k ∈ l
  | [] => by simp [ascU]
  | x :: r => by
    unfold ascU
    rw [insU_mem, ascU_mem, List.mem_cons]
theorem insU_asc {x : Int} : ∀ {l : List Int}, l.Pairwise (· < ·) → (insU x l).Pairwise (· < ·)
  | [], _ => by simp [insU]
  | y :: r, h => by
    obtain ⟨h1, h2⟩ := List.pairwise_cons.mp h
    unfold insU
    split
    · exact h
    · rename_i ne
      split
      · rename_i lt
        refine List.pairwise_cons.mpr ⟨fun z hz => ?_, h⟩
        rcases List.mem_cons.mp hz with e | hz
        · omega
        · have := h1 z hz
          omega
      · rename_i nlt
        refine List.pairwise_cons.mpr ⟨fun z hz => ?_, insU_asc h2⟩
        rcases insU_mem.mp hz with e | hz
        · omega
        · exact h1 z hz
theorem ascU_asc : ∀ {l : List Int}, (ascU l).Pairwise (· < ·)
  | [] => List.Pairwise.nil
  | x :: r => insU_asc ascU_asc
theorem asc_eq : ∀ {l m : List Int}, l.Pairwise (· < ·) → m.Pairwise (· < ·) → (∀ k, k ∈ l ↔ k ∈ m) → l = m
  | [], [], _, _, _ => rfl
  | [], y :: m, _, _, h => absurd ((h y).mpr (List.mem_cons_self ..)) (by simp)
  | x :: l, [], _, _, h => absurd ((h x).mp (List.mem_cons_self ..)) (by simp)
  | x :: l, y :: m, h1, h2, h => by
    obtain ⟨a1, a2⟩ := List.pairwise_cons.mp h1
    obtain ⟨b1, b2⟩ := List.pairwise_cons.mp h2
    have e : x = y := by
      have p := (h x).mp (List.mem_cons_self ..)
      have q := (h y).mpr (List.mem_cons_self ..)
      rcases List.mem_cons.mp p with p | p
      · exact p
      · rcases List.mem_cons.mp q with q | q
        · exact q.symm
        · have := b1 x p
          have := a1 y q
          omega
    subst e
    refine congrArg _ (asc_eq a2 b2 fun k => ⟨fun hk => ?_, fun hk => ?_⟩)
    · rcases List.mem_cons.mp ((h k).mp (List.mem_cons_of_mem _ hk)) with e | r
      · have := a1 k hk
        omega
      · exact r
    · rcases List.mem_cons.mp ((h k).mpr (List.mem_cons_of_mem _ hk)) with e | r
      · have := b1 k hk
        omega
      · exact r
theorem f_srs (hC : COk X C Γ n) (hS : SOk X S) {a : IE} {x : Expr} {y z : Str} {p p2 q pos : Pos} (hy : y = "sorted") (hz : z = "set") (hg : glS S y = true) (hg2 : glS S z = true) (ha : PE X x (rH X.K Γ C.cons a)) (px : plainA x = true) :
    PE X (.Call (.Name y p) [.Call (.Name z p2) [x] [] q] [] pos) (rE X.K Γ C.cons (.srs a)) := by
  subst hy hz
  refine pe_mono (pe_srs (gl_of hS hg) (blt_of hC (by decide +kernel)) (gl_of hS hg2) (blt_of hC (by decide +kernel)) ha hC.calm (plain_star px [] X.env)) fun σ H Q ⟨G, F, env, r, env', R, e, k⟩ => ?_
  obtain ⟨p, e1, e⟩ := obind e
  obtain ⟨d, e2, e⟩ := obind e
  obtain ⟨z, e3, e⟩ := obind e
  cases e
  refine ⟨G, F, env, p.1, p.2, R, e1, fun v H1 F1 R1 E1 q1 => ?_⟩
  cases d with
  | tuple ds =>
    obtain ⟨ns, e4, e5⟩ := obind e3
    have hl : ns.length < 60 := by
      by_cases hl : ns.length < 60
      · exact hl
      · rw [if_neg hl] at e5
        cases e5
    rw [if_pos hl] at e5
    cases e5
    obtain ⟨a, vs, rfl, h1, q2⟩ := opd_tup R1.sub (q1.opd R1 e2)
    have hv := ints_of e4 q2
    subst hv
    refine ⟨a, ns, rfl, h1, hl, fun ms p hs hm hp => ?_⟩
    rw [asc_eq hs ascU_asc fun k => (hm k).trans ascU_mem.symm]
    exact (made_of E1 R1 k).o R1.sub (dqAll_ints F1 _) hp
  | _ => cases e3
/-! ### parts -/
theorem o_no : PO X none (rO X.K Γ C.cons .no) := po_mono po_none fun σ H Q ⟨G, F, env, r, env', R, e, k⟩ => by
  cases e
  exact k H F R Ext.refl
theorem o_so {a : IE} {z : Expr} (ha : PE X z (rH X.K Γ C.cons a)) : PO X (some z) (rO X.K Γ C.cons (.so a)) := po_mono (po_some ha) fun σ H Q ⟨G, F, env, r, env', R, e, k⟩ => by
  obtain ⟨p, e1, e⟩ := obind e
  obtain ⟨d, e2, e⟩ := obind e
  cases d <;> first | cases e | skip
  refine ⟨G, F, env, p.1, p.2, R, e1, fun v H1 F1 R1 E1 q1 => ?_⟩
  cases opd_int (q1.opd R1 e2)
  exact ⟨_, rfl, k H1 F1 R1 E1⟩
/-! ### lists of expressions -/
theorem l_nil : PA X [] (rL X.K Γ C.cons .nil) := pa_mono pa_nil fun σ H Q ⟨G, F, env, r, env', R, e, k⟩ => by
  cases e
  exact k [] H F R Ext.refl .nil
theorem l_cons {a : IE} {r : IL} {z : Expr} {zs : List Expr} (ha : PE X z (rH X.K Γ C.cons a)) (hr : PA X zs (rL X.K Γ C.cons r)) (pz : plainA z = true) : PA X (z :: zs) (rL X.K Γ C.cons (.cons a r)) :=
  pa_mono (pa_cons ha hr (plain_star pz _ _)) fun σ H Q ⟨G, F, env, hs, env', R, e, k⟩ => by
    obtain ⟨p, e1, e⟩ := obind e
    obtain ⟨q, e2, e⟩ := obind e
    cases e
    exact ⟨G, F, env, p.1, p.2, R, e1, fun v H1 F1 R1 E1 q1 => ⟨G, F1, p.2, q.1, q.2, R1, e2, fun vs H2 F2 R2 E2 q2 => k _ _ _ R2 (E1.trans E2) (.cons (q1.mono E2.mono) q2)⟩⟩
theorem v_nil : PA X [] (rV X.K Γ C.cons .nil) := pa_mono pa_nil fun σ H Q ⟨G, F, env, r, env', R, e, k⟩ => by
  cases e
  exact k [] H F R Ext.refl .nil
theorem v_cons {a : IE} {r : IL} {z : Expr} {zs : List Expr} (ha : PE X z (rE X.K Γ C.cons a)) (hr : PA X zs (rV X.K Γ C.cons r)) (pz : plainA z = true) : PA X (z :: zs) (rV X.K Γ C.cons (.cons a r)) :=
  pa_mono (pa_cons ha hr (plain_star pz _ _)) fun σ H Q ⟨G, F, env, hs, env', R, e, k⟩ => by
    obtain ⟨p, e1, e⟩ := obind e
    obtain ⟨q, e2, e⟩ := obind e
    cases e
    refine ⟨G, F, env, p.1, p.2, R, e1, fun v H1 F1 R1 E1 q1 => ?_⟩
    obtain ⟨F2, R2, E2, q2⟩ := R.settle R1 E1 q1
    exact ⟨G, F2, p.2, q.1, q.2, R2, e2, fun vs H3 F3 R3 E3 q3 => k _ _ _ R3 (E2.trans E3) (.cons (dpMono E3.mono _ q2) q3)⟩
theorem v_io (hC : COk X C Γ n) (hS : SOk X S) {i : Nat} {r : IL} {x : Str} {p : Pos} {zs : List Expr} (h : nmS C S i x = true) (hr : PA X zs (rV X.K Γ C.cons r)) : PA X (.Name x p :: zs) (rV X.K Γ C.cons (.io i r)) :=
  pa_mono (pa_cons (pe_nm hC hS h) hr (plain_star rfl _ _)) fun σ H Q ⟨G, F, env, hs, env', R, e, k⟩ => by
    have e : (if (env.at i).isSome = true then (runV Γ C.cons r env).bind (fun q => some (Hd.s i :: q.1, q.2)) else none) = some (hs, env') := e
    split at e
    · rename_i hi
      obtain ⟨q, e2, e⟩ := obind e
      cases e
      obtain ⟨v, a⟩ := nm_val R hi
      exact ⟨v, a, G, F, env, q.1, q.2, R, e2, fun vs H2 F2 R2 E2 q2 => k _ _ _ R2 E2 (.cons a q2)⟩
    · cases e
theorem dq_pairs {K : PySem.W.Frag} {σ : L2.St} {F : Hp} : ∀ {vs : List V} {ds : List PyData}, DqAll K F vs ds → Paired (HV K σ F) vs (ds.map Hd.d)
  | _, [], h => by
    cases h
    exact .nil
  | _, d :: ds, h => by
    cases h with
    | cons h1 h2 => exact .cons h1 (dq_pairs h2)
theorem paired_app {α β : Type} {A : α → β → Prop} : ∀ {l l' : List α} {m m' : List β}, Paired A l m → Paired A l' m' → Paired A (l ++ l') (m ++ m')
  | _, _, _, _, .nil, h => h
  | _, _, _, _, .cons a t, h => .cons a (paired_app t h)
theorem v_star {a : IE} {r : IL} {z : Expr} {p : Pos} {zs : List Expr} (ha : PE X z (rE X.K Γ C.cons a)) (hr : PA X zs (rV X.K Γ C.cons r)) : PA X (.Starred z p :: zs) (rV X.K Γ C.cons (.star a r)) :=
  pa_mono (StX.pa_star ha hr) fun σ H Q ⟨G, F, env, hs, env', R, e, k⟩ => by
    obtain ⟨q, e1, e⟩ := obind e
    refine ⟨G, F, env, q.1, q.2, R, e1, fun v H1 F1 R1 E1 q1 => ?_⟩
    obtain ⟨F2, R2, E2, q2⟩ := R.settle R1 E1 q1
    split at e
    · rename_i ds ed
      rw [ed] at q2
      obtain ⟨w, e2, e⟩ := obind e
      cases e
      cases q2 with
      | lst h1 h2 => exact ⟨_, _, rfl, .inr (rdlMono R2.sub h1).sql, G, F2, q.2, w.1, w.2, R2, e2, fun vs H3 F3 R3 E3 q3 => k _ _ _ R3 (E2.trans E3) (paired_app (dq_pairs (dpAllMono E3.mono _ h2)) q3)⟩
    · rename_i ds ed
      rw [ed] at q2
      obtain ⟨w, e2, e⟩ := obind e
      cases e
      cases q2 with
      | tup h1 h2 => exact ⟨_, _, rfl, .inl (sqtMono R2.sub h1), G, F2, q.2, w.1, w.2, R2, e2, fun vs H3 F3 R3 E3 q3 => k _ _ _ R3 (E2.trans E3) (paired_app (dq_pairs (dpAllMono E3.mono _ h2)) q3)⟩
    · cases e
theorem f_tup {es : IL} {xs : List Expr} {j : Nat} {pos : Pos} (h : PA X xs (rV X.K Γ C.cons es)) : PE X (.Tuple xs j pos) (rE X.K Γ C.cons (.tup es)) :=
  pe_mono (pe_tup h) fun σ H Q ⟨G, F, env, r, env', R, e, k⟩ => by
    obtain ⟨p, e1, e⟩ := obind e
    obtain ⟨ds, e2, e⟩ := obind e
    split at e
    · rename_i hz
      cases e
      refine ⟨G, F, env, p.1, p.2, R, e1, fun vs H1 F1 R1 E1 q1 => ?_⟩
      have q2 := dqAll_of q1 e2
      exact ⟨by rw [dpAll_len q2]; exact hz, fun a ha => (made_of E1 R1 k).t R1.sub q2 ha⟩
    · cases e
theorem f_lst {es : IL} {xs : List Expr} {pos : Pos} (h : PA X xs (rV X.K Γ C.cons es)) : PE X (.List xs pos) (rE X.K Γ C.cons (.lst es)) :=
  pe_mono (pe_lst h) fun σ H Q ⟨G, F, env, r, env', R, e, k⟩ => by
    obtain ⟨p, e1, e⟩ := obind e
    obtain ⟨ds, e2, e⟩ := obind e
    split at e
    · rename_i hz
      cases e
      refine ⟨G, F, env, p.1, p.2, R, e1, fun vs H1 F1 R1 E1 q1 => ?_⟩
      have q2 := dqAll_of q1 e2
      exact ⟨by rw [dpAll_len q2]; exact hz, fun a ha => (made_of E1 R1 k).o R1.sub q2 ha⟩
    · cases e
theorem fnR {f : BF} {es : IL} {σ : L2.St} {H : Hp} {Q : VK} (h : rE X.K Γ C.cons (.fn f es) σ H Q) : tCB (qFn X.K f) (rL X.K Γ C.cons es) σ H Q := by
  obtain ⟨G, F, env, r, env', R, e, k⟩ := h
  obtain ⟨p, e1, e⟩ := obind e
  obtain ⟨ds, e2, e⟩ := obind e
  obtain ⟨z, e3, e⟩ := obind e
  cases e
  exact ⟨G, F, env, p.1, p.2, R, e1, fun vs H1 F1 R1 E1 q1 => ⟨F1, _, _, R1.sub, opdAll_of R1 q1 e2, e3, made_of E1 R1 k⟩⟩
theorem f_fn (hC : COk X C Γ n) (hS : SOk X S) {f : BF} {es : IL} {z : Expr} {zs : List Expr} {x : Str} {p pos : Pos} (hx : x = f.nm) (hg : glS S x = true) (h : PA X (z :: zs) (rL X.K Γ C.cons es)) (hp : (z :: zs).all plainA = true) :
    PE X (.Call (.Name x p) (z :: zs) [] pos) (rE X.K Γ C.cons (.fn f es)) := by
  subst hx
  have hg' := gl_of hS hg
  rw [List.all_cons, Bool.and_eq_true] at hp
  have st := plain_star hp.1 zs X.env
  have an := plain_any hp.2 pos X.env
  have hf := fn_ok hC.calm hC.guards hC.units f
  cases f with
  | len => exact pe_mono (pe_callB hf hg' (blt_of hC (by decide +kernel)) (by decide +kernel) h (by decide +kernel) (by decide +kernel) st an) fun _ _ _ => fnR
  | abs => exact pe_mono (pe_callB hf hg' (blt_of hC (by decide +kernel)) (by decide +kernel) h (by decide +kernel) (by decide +kernel) st an) fun _ _ _ => fnR
  | max2 => exact pe_mono (pe_callB hf hg' (blt_of hC (by decide +kernel)) (by decide +kernel) h (by decide +kernel) (by decide +kernel) st an) fun _ _ _ => fnR
  | min2 => exact pe_mono (pe_callB hf hg' (blt_of hC (by decide +kernel)) (by decide +kernel) h (by decide +kernel) (by decide +kernel) st an) fun _ _ _ => fnR
  | max1 => exact pe_mono (pe_callB hf hg' (blt_of hC (by decide +kernel)) (by decide +kernel) h (by decide +kernel) (by decide +kernel) st an) fun _ _ _ => fnR
  | min1 => exact pe_mono (pe_callB hf hg' (blt_of hC (by decide +kernel)) (by decide +kernel) h (by decide +kernel) (by decide +kernel) st an) fun _ _ _ => fnR
  | sum => exact pe_mono (pe_callB hf hg' (blt_of hC (by decide +kernel)) (by decide +kernel) h (by decide +kernel) (by decide +kernel) st an) fun _ _ _ => fnR
  | divmod => exact pe_mono (pe_callB hf hg' (blt_of hC (by decide +kernel)) (by decide +kernel) h (by decide +kernel) (by decide +kernel) st an) fun _ _ _ => fnR
  | all => exact pe_mono (pe_callB hf hg' (blt_of hC (by decide +kernel)) (by decide +kernel) h (by decide +kernel) (by decide +kernel) st an) fun _ _ _ => fnR
  | any => exact pe_mono (pe_callB hf hg' (blt_of hC (by decide +kernel)) (by decide +kernel) h (by decide +kernel) (by decide +kernel) st an) fun _ _ _ => fnR
  | repr => exact pe_mono (pe_callB hf hg' (blt_of hC (by decide +kernel)) (by decide +kernel) h (by decide +kernel) (by decide +kernel) st an) fun _ _ _ => fnR
  | sorted => exact pe_mono (pe_callB hf hg' (blt_of hC (by decide +kernel)) (by decide +kernel) h (by decide +kernel) (by decide +kernel) st an) fun _ _ _ => fnR
  | int => exact pe_mono (pe_callTy hf hg' (blt_of hC (by decide +kernel)) (by decide +kernel) h (by decide +kernel) (by decide +kernel) st an) fun _ _ _ => fnR
  | tuple => exact pe_mono (pe_callTy hf hg' (blt_of hC (by decide +kernel)) (by decide +kernel) h (by decide +kernel) (by decide +kernel) st an) fun _ _ _ => fnR
  | list => exact pe_mono (pe_callTy hf hg' (blt_of hC (by decide +kernel)) (by decide +kernel) h (by decide +kernel) (by decide +kernel) st an) fun _ _ _ => fnR
  | str => exact pe_mono (pe_callTy hf hg' (blt_of hC (by decide +kernel)) (by decide +kernel) h (by decide +kernel) (by decide +kernel) st an) fun _ _ _ => fnR
  | dict => exact pe_mono (pe_callTy hf hg' (blt_of hC (by decide +kernel)) (by decide +kernel) h (by decide +kernel) (by decide +kernel) st an) fun _ _ _ => fnR
end
end PF

/-! PF8: isinstance, calls, methods, targets, what is walked, comprehensions, tests. -/
namespace PF
open PySem PySem.Spec PyProof.Rows L2
section
variable {X : Cx} {C : Cfg} {S : Sc} {Γ : Tab} {n : Nat}
/-! ### isinstance -/
theorem ty_of {K : PySem.W.Frag} {F H : Hp} {x : V} {d : PyData} (s : Same F H) (h : Opd K F H x d) (hq : isF d = false) : TyX K H x (.type (tyD d)) := by
  cases d with
  | none =>
    cases opd_none h
    exact .base .non
  | bool b =>
    cases opd_bool h
    exact .base (.bl _)
  | int i =>
    cases opd_int h
    exact .base (.int _)
  | str z =>
    cases opd_str h
    exact .base (.str _)
  | list ds =>
    obtain ⟨p, vs, rfl, h1, _⟩ := opd_list s h
    rcases h1 with (h1 | ⟨o, h1⟩) | ⟨its, m, h1, _⟩
    · exact .base (.lst h1)
    · exact .base (.frz h1)
    · exact .kList h1 rfl
  | tuple ds =>
    obtain ⟨p, vs, rfl, h1, _⟩ := opd_tup s h
    rcases h1 with (h1 | ⟨o, h1⟩) | ⟨o, its, m, h1, h2, _⟩
    · exact .base (.tup h1)
    · exact .fTuple h1
    · exact .kTuple h1 h2
  | dict kvs =>
    obtain ⟨p, vs, rfl, h1, _⟩ := opd_dict s h hq
    rcases h1 with h1 | ⟨o, h1⟩
    · exact .base (.dK h1)
    · exact .fDict h1
def tyNames : List String := ["int", "bool", "str", "list", "tuple", "dict"]
theorem kit_isi (d : PyData) {t : String} (ht : tyNames.contains t = true) : kitB (tyD d) t = some (isiD d t) := by
  have h : t = "int" ∨ t = "bool" ∨ t = "str" ∨ t = "list" ∨ t = "tuple" ∨ t = "dict" := by
    simp [tyNames] at ht
    exact ht
  rcases h with rfl | rfl | rfl | rfl | rfl | rfl <;> cases d <;> rfl
theorem boot_ty {t : String} (ht : tyNames.contains t = true) : bootBuiltins (Str.ofString t) = some (.type t) ∧ blts.contains (Str.ofString t) = true ∧ Str.ofString t ≠ "__name__" ∧ (Str.ofString t == ("__debug__" : Str)) = false := by
  have h : t = "int" ∨ t = "bool" ∨ t = "str" ∨ t = "list" ∨ t = "tuple" ∨ t = "dict" := by
    simp [tyNames] at ht
    exact ht
  rcases h with rfl | rfl | rfl | rfl | rfl | rfl <;> exact ⟨by decide +kernel, by decide +kernel, by decide +kernel, by decide +kernel⟩
theorem f_isi (hC : COk X C Γ n) (hS : SOk X S) {a : IE} {t : String} {x y : Str} {z : Expr} {p p2 pos : Pos} (hx : x = "isinstance") (hg : glS S x = true) (ha : PE X z (rH X.K Γ C.cons a)) (pz : plainA z = true) (hy : y = Str.ofString t) (hg2 : glS S y = true) (ht : tyNames.contains t = true) :
    PE X (.Call (.Name x p) [z, .Name y p2] [] pos) (rE X.K Γ C.cons (.isi a t)) := by
  subst hx hy
  obtain ⟨b1, b2, b3, b4⟩ := boot_ty ht
  have pt : PE X (.Name (Str.ofString t) p2) (tC (.ty t)) := pe_bltn (gl_of hS hg2) (blt_of hC b2) b1 rfl b3 b4
  refine pe_mono (pe_callB call_isi (gl_of hS hg) (blt_of hC (by decide +kernel)) (by decide +kernel) (pa_cons ha (pa_cons pt pa_nil (by rfl)) (plain_star pz _ _)) (by decide +kernel) (by decide +kernel) (plain_star pz _ _) rfl) fun σ H Q ⟨G, F, env, r, env', R, e, k⟩ => ?_
  obtain ⟨q, e1, e⟩ := obind e
  obtain ⟨d, e2, e⟩ := obind e
  obtain ⟨w, e3, e⟩ := obind e
  cases e
  simp only at e3
  split at e3
  · cases e3
  rename_i hq
  cases e3
  exact ⟨G, F, env, q.1, q.2, R, e1, fun v H1 F1 R1 E1 q1 => ⟨v, .ty t, _, _, _, rfl, .ty t, ty_of R1.sub (q1.opd R1 e2) (by simpa using hq), kit_ty (kit_isi d ht), k _ _ _ R1 E1 (.bl _)⟩⟩
/-! ### the call of a def -/
theorem callR {f : Nat} {es : IL} {σ : L2.St} {H : Hp} {Q : VK} (h : rE X.K Γ C.cons (.call f es) σ H Q) : tCG X.K (Γ f) (rV X.K Γ C.cons es) σ H Q := by
  obtain ⟨G, F, env, r, env', R, e, k⟩ := h
  obtain ⟨p, e1, e⟩ := obind e
  obtain ⟨as, e2, e⟩ := obind e
  obtain ⟨z, e3, e⟩ := obind e
  cases e
  refine ⟨G, F, env, p.1, p.2, R, e1, fun vs H1 F1 R1 E1 q1 => ?_⟩
  obtain ⟨i1, _, i3, i4, i5⟩ := args_of R1 q1 e2
  refine ⟨F1, as, z.1, z.2, R1.sub, R1.entF, i1, i3, e3, fun v H2 F2 P => ?_⟩
  have go : Rel X.K G σ H2 F2 (putA p.2 p.1 z.2) ∧ Ext X.K σ p.2 H1 F1 H2 F2 (putA p.2 p.1 z.2) := by
    cases hl : lentS p.1 with
    | none =>
      have e0 : putA p.2 p.1 z.2 = p.2 := by
        unfold putA
        rw [hl]
      rw [e0]
      exact R1.growT P.mono P.sub (fun b o h nt => P.keep b o h nt fun y => by
        obtain ⟨i, _, _, a, _⟩ := i4 b y
        rw [hl] at a
        cases a) P.live P.fresh P.tabs
    | some i =>
      obtain ⟨a, s, ds, a1, a2, a3, a4⟩ := i5 i hl
      obtain ⟨fa, ws, ha, qa⟩ := P.lent a a4
      have kp : ∀ b o, H1 b = some o → NT o → b ≠ a → H2 b = some o := fun b o h nt nb => P.keep b o h nt fun y => by
        obtain ⟨j, _, _, b1, _, _, b4⟩ := i4 b y
        rw [hl] at b1
        cases b1
        rw [a3] at b4
        cases b4
        exact nb rfl
      cases s with
      | v d => cases a2
      | w d => cases a2
      | o es =>
        have e0 : putA p.2 p.1 z.2 = p.2.set i (some (.o z.2)) := by
          unfold putA
          rw [hl]
          simp only [a1]
        rw [e0]
        exact R1.lent a1 a2 a3 P.mono P.sub kp P.live P.tabs P.fresh fa ha qa rfl rfl
      | b es =>
        have e0 : putA p.2 p.1 z.2 = p.2.set i (some (.b z.2)) := by
          unfold putA
          rw [hl]
          simp only [a1]
        rw [e0]
        exact R1.lent a1 a2 a3 P.mono P.sub kp P.live P.tabs P.fresh fa ha qa rfl rfl
  exact k v H2 F2 go.1 (E1.trans go.2) (P.res.back E1.live)
theorem f_call (hC : COk X C Γ n) (hS : SOk X S) {f : Nat} {es : IL} {x : Str} {zs : List Expr} {p pos : Pos} (hf : C.fns[f]? = some x) (hg : glS S x = true) (hx : okN x = true) (h : PA X zs (rV X.K Γ C.cons es)) (hp : zs.all plainA = true)
    (h0 : zs = [] → es = .nil) : PE X (.Call (.Name x p) zs [] pos) (rE X.K Γ C.cons (.call f es)) := by
  obtain ⟨a, hm, F⟩ := hC.fns f x hf
  cases zs with
  | nil =>
    cases h0 rfl
    refine pe_mono (pe_callG0 hC F (gl_of hS hg) hm hx) fun σ H Q h => ?_
    obtain ⟨G, F, env, hs, env', R, e1, k⟩ := callR h
    cases e1
    exact k [] H F R Ext.refl .nil
  | cons z zs => exact pe_mono (pe_callG hC F (gl_of hS hg) hm hx h hp) fun σ H Q h => callR h
/-- a call of the def that a name holds -/
theorem fnAt_of {K : PySem.W.Frag} {G : Gh} {σ : L2.St} {H F : Hp} {env : En} (R : Rel K G σ H F env) {i : Nat} {x : Str} (h : fnAt env i x = true) : ∃ a, σ[i]? = some (some (.ref a)) ∧ PySem.W.nsIn K mainGlobals x = some (some (.ref a)) := by
  unfold fnAt at h
  split at h
  · rename_i y e
    obtain rfl := of_decide_eq_true h
    obtain ⟨v, a, q⟩ := R.val i _ e
    cases q with
    | fnc h1 => exact ⟨_, a, h1⟩
    | dct h1 h2 =>
      cases h2 with
      | cons h3 _ _ => cases h3
  · cases h
theorem f_act (hC : COk X C Γ n) (hS : SOk X S) {i f : Nat} {es : IL} {x y : Str} {z : Expr} {zs : List Expr} {p pos : Pos} (hi : nmS C S i y = true) (hf : C.fns[f]? = some x) (h : PA X (z :: zs) (rV X.K Γ C.cons es)) (hp : (z :: zs).all plainA = true) :
    PE X (.Call (.Name y p) (z :: zs) [] pos) (rE X.K Γ C.cons (.act i f x es)) := by
  obtain ⟨a, hm, FP⟩ := hC.fns f x hf
  refine ⟨fun pins s σ H Q I hq => ?_⟩
  obtain ⟨G, F, env, r, env', R, e, k⟩ := hq
  have e : (if fnAt env i x = true then (runV Γ C.cons es env).bind fun p => (getA p.2 false p.1).bind fun as => (Γ f as).bind fun r => some (r.1, putA p.2 p.1 r.2) else none) = some (r, env') := e
  by_cases hfn : fnAt env i x = true
  case neg =>
    rw [if_neg hfn] at e
    cases e
  rw [if_pos hfn] at e
  have hc : tCG X.K (Γ f) (rV X.K Γ C.cons es) σ H Q := callR ⟨G, F, env, r, env', R, e, k⟩
  obtain ⟨b, hb, hn⟩ := fnAt_of R hfn
  have hb2 : b = a := by
    have := PySem.W.mg_of I.ok.mod.kin I.ok.mod.glob hn
    rw [hm] at this
    cases this
    rfl
  subst hb2
  refine wpAny_Call_Name_kw (thn ((pe_nm hC hS (p := p) hi).run pins s σ H (fun v H1 => v = .ref b ∧ H1 = H) I ⟨_, hb, rfl, rfl⟩) fun u s1 ⟨v, H1, I1, r1, q1⟩ => ?_)
  obtain ⟨ev, eH⟩ := q1
  subst ev
  rw [eH] at I1
  obtain rfl : u = Value.ref b := r1
  rw [List.all_cons, Bool.and_eq_true] at hp
  refine PySem.W.callWith_K (h₀ := X.base) I.ok.mod.kin FP.kp (thn (h.run pos pins s1 σ H _ I1 hc) fun us s2 ⟨vs, H2, I2, r2, q⟩ => ⟨I2.kIn, ?_⟩) (plain_star hp.1 _ _) (plain_any hp.2 _ _)
  exact run_fnG FP hC.room hC.guards I2 r2 q
/-! ### a method that changes a name's list -/
def qMt (K : PySem.W.Frag) (m : MT) : V → List V → Hp → VK → Prop := fun x ws H Q => ∃ F p vs xs ds d ys, Same F H ∧ x = .ref p ∧ H p = some (.lst vs) ∧ DqAll K F vs xs ∧ DqAll K F ws ds ∧ mtD m xs ds = some (d, ys) ∧ ∀ w vs', Dq K F w d → DqAll K F vs' ys → Q w (upd H p (.lst vs'))
theorem mt_rule (m : MT) : MtR X m.id (qMt X.K m) := by
  intro pins s σ H x xs v us Q I rx r h
  obtain ⟨F, p, vs, ys, ds, d, zs, sm, rfl, hp, q1, q2, e, k⟩ := h
  exact mt_ok rfl I rx r hp q1 q2 e sm k
theorem mutAt_of {env : En} {i : Nat} (h : mutAt env i = true) : ∃ s ds, env.at i = some s ∧ s.m = some (.l ds) := by
  unfold mutAt at h
  split at h
  · exact ⟨_, _, by assumption, rfl⟩
  · exact ⟨_, _, by assumption, rfl⟩
  · cases h
theorem mtTail {m : MT} {i : Nat} {es : IL} {σ : L2.St} {H : Hp} {Q : VK} (h : rE X.K Γ C.cons (.mt m i es) σ H Q) :
    ∃ p, σ[i]? = some (some (.ref p)) ∧ (∃ vs, H p = some (.lst vs)) ∧ rV X.K Γ C.cons es σ H fun ws H1 => qMt X.K m (.ref p) ws H1 Q := by
  obtain ⟨G, F, env, r, env', R, e, k⟩ := h
  have e : (if mutAt env i = true then (runV Γ C.cons es env).bind fun p => (getD p.1).bind fun ds => match p.2.at i with
      | some (.o xs) => (mtD m xs ds).bind fun r => some (Sl.v r.1, p.2.set i (some (.o r.2)))
      | some (.b xs) => (mtD m xs ds).bind fun r => some (Sl.v r.1, p.2.set i (some (.b r.2)))
      | _ => none
    else none) = some (r, env') := e
  split at e
  · rename_i hm
    obtain ⟨s0, ds0, a0, b0⟩ := mutAt_of hm
    obtain ⟨p, vs, a, f, hp, q, _⟩ := R.mu i s0 ds0 a0 b0
    refine ⟨p, a, ⟨vs, hp⟩, ?_⟩
    obtain ⟨q, e1, e⟩ := obind e
    obtain ⟨ds, e2, e⟩ := obind e
    refine ⟨G, F, env, q.1, q.2, R, e1, fun ws H1 F1 R1 E1 q1 => ?_⟩
    have q2 := dqAll_of q1 e2
    have key : ∀ (s s' : Sl) (xs ys : List PyData) (d : PyData), q.2.at i = some s → s.m = some (.l xs) → mtD m xs ds = some (d, ys) → s'.m = some (.l ys) → isB s' = isB s → r = .v d → env' = q.2.set i (some s') → qMt X.K m (.ref p) ws H1 Q := fun s s' xs ys d a1 a2 a3 a4 a5 a6 a7 => by
      subst a6 a7
      obtain ⟨p2, vs2, b1, b2, b3, b4, _⟩ := R1.mu i s xs a1 a2
      rw [a] at b1
      cases b1
      refine ⟨F1, p, vs2, xs, ds, d, ys, R1.sub, rfl, b3, b4, q2, a3, fun w vs' qw qv => ?_⟩
      obtain ⟨R2, E2⟩ := R1.change (s' := s') a1 a2 a b3 a4 a5 qv
      exact k w _ F1 R2 (E1.trans E2) qw
    split at e
    · rename_i xs ea
      obtain ⟨z, e3, e⟩ := obind e
      cases e
      exact key _ (.o z.2) xs z.2 z.1 ea rfl e3 rfl rfl rfl rfl
    · rename_i xs ea
      obtain ⟨z, e3, e⟩ := obind e
      cases e
      exact key _ (.b z.2) xs z.2 z.1 ea rfl e3 rfl rfl rfl rfl
    · cases e
  · cases e
theorem f_mt (hC : COk X C Γ n) (hS : SOk X S) {m : MT} {i : Nat} {es : IL} {x a : Str} {zs : List Expr} {p ap cp : Pos} (hx : nmS C S i x = true) (ha : a = m.nm) (hl : (ap.endLine == cp.line) = true) (h : PA X zs (rV X.K Γ C.cons es)) (hp : zs.all plainA = true) (hz : zs.length ≤ 2)
    (h0 : zs = [] → es = .nil) : PE X (.Call (.Attribute (.Name x p) a ap) zs [] cp) (rE X.K Γ C.cons (.mt m i es)) := by
  subst ha
  have pn := pe_nm (p := p) hC hS hx
  cases zs with
  | nil =>
    cases h0 rfl
    cases m with
    | pop =>
      refine pe_mono (pe_bm0 PySem.F.plainAttrs_list PySem.F.slot_list_pop PySem.F.type_list_pop (mt_rule .pop) pn rfl hl) fun σ H Q h => ?_
      obtain ⟨p, a, ⟨vs, hv⟩, G, F, env, hs, env', R, e1, k⟩ := mtTail h
      cases e1
      exact ⟨_, a, .inl ⟨rfl, vs, .inl (.inl hv)⟩, k [] H F R Ext.refl .nil⟩
    | append =>
      exact ⟨fun pins s σ H Q I h => by
        obtain ⟨p, a, ⟨vs, hv⟩, G, F, env, hs, env', R, e1, k⟩ := mtTail h
        cases e1
        obtain ⟨_, _, _, _, _, _, _, _, _, _, _, q, e, _⟩ := k [] H F R Ext.refl .nil
        cases q
        cases e⟩
    | insert =>
      exact ⟨fun pins s σ H Q I h => by
        obtain ⟨p, a, ⟨vs, hv⟩, G, F, env, hs, env', R, e1, k⟩ := mtTail h
        cases e1
        obtain ⟨_, _, _, _, _, _, _, _, _, _, _, q, e, _⟩ := k [] H F R Ext.refl .nil
        cases q
        cases e⟩
    | extend =>
      exact ⟨fun pins s σ H Q I h => by
        obtain ⟨p, a, ⟨vs, hv⟩, G, F, env, hs, env', R, e1, k⟩ := mtTail h
        cases e1
        obtain ⟨_, _, _, _, _, _, _, _, _, _, _, q, e, _⟩ := k [] H F R Ext.refl .nil
        cases q
        cases e⟩
  | cons z zs =>
    have all := plain_all hp cp X.env
    rw [List.all_cons, Bool.and_eq_true] at hp
    have st := plain_star hp.1 zs X.env
    have an := plain_any hp.2 cp X.env
    have few : ((backTo cp (starEach (z :: zs) X.env)).all (fun x => !x.1) && (backToKw cp (keywordEach [] X.env)).all (fun x => x.1.isSome)
      && decide ((z :: zs).length + ([] : List Keyword).length + (if ([] : List Keyword).isEmpty then 0 else 1) < 30)) = true := by
      rw [all]
      show decide ((z :: zs).length + 0 + 0 < 30) = true
      exact decide_eq_true (by omega)
    have fin : ∀ σ H Q, rE X.K Γ C.cons (.mt m i es) σ H Q → tBM X.K "list" (qMt X.K m) (tVar i) (rV X.K Γ C.cons es) σ H Q := fun σ H Q h => by
      obtain ⟨p, a, ⟨vs, hv⟩, k⟩ := mtTail h
      exact ⟨_, a, .inl ⟨rfl, vs, .inl (.inl hv)⟩, k⟩
    cases m with
    | append => exact pe_mono (pe_bm PySem.F.plainAttrs_list PySem.F.slot_list_append PySem.F.type_list_append (mt_rule .append) pn h rfl few hl st an) fin
    | pop => exact pe_mono (pe_bm PySem.F.plainAttrs_list PySem.F.slot_list_pop PySem.F.type_list_pop (mt_rule .pop) pn h rfl few hl st an) fin
    | insert => exact pe_mono (pe_bm PySem.F.plainAttrs_list PySem.F.slot_list_insert PySem.F.type_list_insert (mt_rule .insert) pn h rfl few hl st an) fin
    | extend => exact pe_mono (pe_bm PySem.F.plainAttrs_list PySem.F.slot_list_extend PySem.F.type_list_extend (mt_rule .extend) pn h rfl few hl st an) fin
/-! ### targets -/
def lenGs : IGs → Nat
  | .nil => 0
  | .cons _ r => lenGs r + 1
theorem gs_len : ∀ (gs : IGs) (es : List Expr), chkGs C S gs es = true → ∀ env, (assignEach es env).length = lenGs gs ∧ (assignEach es env).findIdx? (·.1) = none
  | .nil, es, h, env => by
    cases es with
    | nil => exact ⟨rfl, rfl⟩
    | cons _ _ => exact absurd h Bool.false_ne_true
  | .cons g r, es, h, env => by
    cases es with
    | nil => exact absurd h Bool.false_ne_true
    | cons z zs =>
      have h : (chkG C S g z && notStar z && chkGs C S r zs) = true := h
      rw [Bool.and_eq_true, Bool.and_eq_true] at h
      obtain ⟨h1, h2⟩ := gs_len r zs h.2 env
      have e : assignEach (z :: zs) env = (false, assign z env) :: assignEach zs env := by
        cases z <;> first | exact absurd h.1.2 Bool.false_ne_true | rfl
      rw [e]
      refine ⟨congrArg (· + 1) h1, ?_⟩
      rw [List.findIdx?_cons, h2]
      rfl
theorem runGs_len : ∀ (gs : IGs) (ds : List PyData) (env env' : En), runGs gs ds env = some env' → ds.length = lenGs gs
  | .nil, [], _, _, _ => rfl
  | .nil, _ :: _, _, _, h => by cases h
  | .cons g r, [], _, _, h => by cases h
  | .cons g r, d :: ds, env, env', h => by
    obtain ⟨e1, _, h2⟩ := obind h
    exact congrArg (· + 1) (runGs_len r ds e1 env' h2)
mutual
theorem sG (hC : COk X C Γ n) (hS : SOk X S) : ∀ (g : IG) (z : Expr), chkG C S g z = true → PG X z (rG X.K g)
  | .n i, z, h => by
    cases z with
    | Name x p =>
      have h : tgS C S i x = true := h
      unfold tgS at h
      rw [Bool.and_eq_true] at h
      obtain ⟨h1, h2⟩ := loc_of hS h.2
      refine pg_mono (pg_name hC.nd (by rw [hC.N]; exact of_decide_eq_true h.1) h1 h2) fun v σ H Q ⟨G, F, env, d, env', R, q, e, k⟩ => ?_
      exact k _ (R.setv e q) (List.length_set ..) (fun j hj => by
        rw [st_get, if_neg]
        intro z
        exact hj (by rw [← z]; exact List.mem_cons_self)) fun b z => setv_own R.len e b z
    | _ => exact absurd h Bool.false_ne_true
  | .t gs, z, h => by
    cases z with
    | Tuple es j p =>
      have h : chkGs C S gs es = true := h
      have hp := gs_len gs es h X.env
      refine pg_mono (pg_tup hC.calm (sGs hC hS gs es h) hp.1 hp.2) fun v σ H Q ⟨G, F, env, d, env', R, q, e, k⟩ => ?_
      cases d <;> first | cases e | skip
      cases q with
      | tup h1 h2 =>
        refine ⟨_, _, rfl, sqtMono R.sub h1, ?_, G, F, env, _, env', R, h2, e, fun σ' R' l1 l2 l3 => k σ' R' l1 l2 l3⟩
        rw [dpAll_len h2, runGs_len gs _ _ _ e]
    | _ => exact absurd h Bool.false_ne_true
theorem sGs (hC : COk X C Γ n) (hS : SOk X S) : ∀ (gs : IGs) (es : List Expr), chkGs C S gs es = true → PGs X es (rGs X.K gs)
  | .nil, es, h => by
    cases es with
    | nil =>
      refine pgs_mono pgs_nil fun vs σ H Q ⟨G, F, env, ds, env', R, q, e, k⟩ => ?_
      cases ds with
      | nil =>
        cases e
        cases q
        exact ⟨rfl, k σ R rfl (fun _ _ => rfl) fun _ z => z⟩
      | cons _ _ => cases e
    | cons _ _ => exact absurd h Bool.false_ne_true
  | .cons g r, es, h => by
    cases es with
    | nil => exact absurd h Bool.false_ne_true
    | cons z zs =>
      have h : (chkG C S g z && notStar z && chkGs C S r zs) = true := h
      rw [Bool.and_eq_true, Bool.and_eq_true] at h
      have p1 := sG hC hS g z h.1.1
      have p2 := sGs hC hS r zs h.2
      refine pgs_mono (pgs_cons p1 p2 (by cases z <;> first | exact absurd h.1.2 Bool.false_ne_true | rfl)) fun vs σ H Q ⟨G, F, env, ds, env', R, q, e, k⟩ => ?_
      cases ds with
      | nil => cases e
      | cons d ds =>
        obtain ⟨env1, e1, e2⟩ := obind e
        cases q with
        | cons q1 q2 =>
          refine ⟨_, _, rfl, G, F, env, d, env1, R, q1, e1, fun σ1 R1 l1 l2 l3 => ⟨G, F, env1, ds, env', R1, q2, e2, fun σ2 R2 m1 m2 m3 => ?_⟩⟩
          refine k σ2 R2 (m1.trans l1) (fun j hj => ?_) fun b z => l3 b (m3 b z)
          have hj : j ∉ slotsG g ++ slotsGs r := hj
          rw [List.mem_append, not_or] at hj
          rw [m2 j hj.2, l2 j hj.1]
end
end
end PF

/-! PF9: what is walked, comprehensions, tests; the soundness of expressions. -/
namespace PF
open PySem PySem.Spec PyProof.Rows L2
section
variable {X : Cx} {C : Cfg} {S : Sc} {Γ : Tab} {n : Nat} {tg : Expr}
theorem oite {α : Type} {c : Prop} [Decidable c] {a : Option α} {y : α} (h : (if c then a else none) = some y) : c ∧ a = some y := by
  by_cases hc : c
  · rw [if_pos hc] at h
    exact ⟨hc, h⟩
  · rw [if_neg hc] at h
    cases h
/-! ### what is walked -/
theorem i_e {a : IE} {z : Expr} (ha : PE X z (rE X.K Γ C.cons a)) : PI X tg z (rI X.K Γ C.cons (.e a)) := by
  refine ⟨fun pins s σ H Q I ⟨G, F, env, ds, env', R, e, k⟩ => ?_⟩
  obtain ⟨q, e1, e⟩ := obind e
  split at e
  · rename_i xs ed
    cases e
    refine (pi_list ha).run pins s σ H Q I ⟨G, F, env, q.1, q.2, R, e1, fun v H1 F1 R1 E1 q1 => ?_⟩
    obtain ⟨F2, R2, E2, q2⟩ := R.settle R1 E1 q1
    rw [ed] at q2
    cases q2 with
    | lst h1 h2 => exact ⟨_, rfl, ⟨_, (rdlMono R2.sub h1).sql⟩, k _ H1 F2 R2 E2 (walkD_list h1 h2)⟩
  · rename_i xs ed
    cases e
    refine (pi_tup ha).run pins s σ H Q I ⟨G, F, env, q.1, q.2, R, e1, fun v H1 F1 R1 E1 q1 => ?_⟩
    obtain ⟨F2, R2, E2, q2⟩ := R.settle R1 E1 q1
    rw [ed] at q2
    cases q2 with
    | tup h1 h2 => exact ⟨_, rfl, ⟨_, sqtMono R2.sub h1⟩, k _ H1 F2 R2 E2 (walkD_tup h1 h2)⟩
  · cases e
theorem i_r1 (hC : COk X C Γ n) (hS : SOk X S) {a : IE} {z : Expr} {x : Str} {p pos : Pos} (hx : x = "range") (hg : glS S x = true) (ha : PE X z (rH X.K Γ C.cons a)) (pz : plainA z = true) : PI X tg (.Call (.Name x p) [z] [] pos) (rI X.K Γ C.cons (.r1 a)) := by
  subst hx
  refine pi_mono (pi_range1 (gl_of hS hg) (blt_of hC (by decide +kernel)) (pa_cons ha pa_nil (plain_star pz _ _)) (plain_star pz _ _)) fun σ H Q ⟨G, F, env, ds, env', R, e, k⟩ => ?_
  obtain ⟨q, e1, e⟩ := obind e
  obtain ⟨d, e2, e⟩ := obind e
  cases d <;> first | cases e | skip
  refine ⟨G, F, env, q.1, q.2, R, e1, fun v H1 F1 R1 E1 q1 => ?_⟩
  cases opd_int (q1.opd R1 e2)
  simp only at e
  obtain ⟨ds', e3, e⟩ := obind e
  unfold rngO at e3
  obtain ⟨hj, e3⟩ := oite e3
  cases e3
  cases e
  rw [Int.sub_zero] at k
  exact ⟨_, rfl, (log_rg2 hj.2).1, (log_rg2 hj.2).2, k _ H1 F1 R1 E1 (walkD_range 0 _)⟩
theorem i_r2 (hC : COk X C Γ n) (hS : SOk X S) {a b : IE} {z w : Expr} {x : Str} {p pos : Pos} (hx : x = "range") (hg : glS S x = true) (ha : PE X z (rH X.K Γ C.cons a)) (pz : plainA z = true) (hb : PE X w (rH X.K Γ C.cons b)) (pw : plainA w = true) :
    PI X tg (.Call (.Name x p) [z, w] [] pos) (rI X.K Γ C.cons (.r2 a b)) := by
  subst hx
  have s2 := plain_star pw [] X.env
  have s1 := plain_star pz [w] X.env
  refine pi_mono (pi_range2 (gl_of hS hg) (blt_of hC (by decide +kernel)) (pa_cons ha (pa_cons hb pa_nil s2) s1) (by rw [s1, s2]; rfl) (by rw [s2]; rfl)) fun σ H Q ⟨G, F, env, ds, env', R, e, k⟩ => ?_
  obtain ⟨q, e1, e⟩ := obind e
  obtain ⟨q', e2, e⟩ := obind e
  obtain ⟨d, e3, e⟩ := obind e
  obtain ⟨d', e4, e⟩ := obind e
  refine two_ops R e1 e2 fun v u H2 F2 R2 E2 q1 q2 => ?_
  cases d <;> first | cases e | skip
  cases d' <;> first | cases e | skip
  cases opd_int (q1.opd R2 e3)
  cases opd_int (q2.opd R2 e4)
  simp only at e
  obtain ⟨ds', e5, e⟩ := obind e
  unfold rngO at e5
  obtain ⟨hj, e5⟩ := oite e5
  cases e5
  cases e
  exact ⟨_, _, rfl, ⟨(log_rg2 hj.1).1, (log_rg2 hj.1).2, (log_rg2 hj.2).1, (log_rg2 hj.2).2⟩, k _ H2 F2 R2 E2 (walkD_range _ _)⟩
theorem i_rd (hC : COk X C Γ n) (hS : SOk X S) {a b : IE} {z w : Expr} {x : Str} {p pos p1 p2 : Pos} {kk : Nat} (hx : x = "range") (hg : glS S x = true) (ha : PE X z (rH X.K Γ C.cons a)) (pz : plainA z = true) (hb : PE X w (rH X.K Γ C.cons b)) (pw : plainA w = true) :
    PI X tg (.Call (.Name x p) [z, w, .UnaryOp .USub (.Constant (.int 1) kk p1) p2] [] pos) (rI X.K Γ C.cons (.rd a b)) := by
  subst hx
  have s2 := plain_star pw [.UnaryOp .USub (.Constant (.int 1) kk p1) p2] X.env
  have s1 := plain_star pz [w, .UnaryOp .USub (.Constant (.int 1) kk p1) p2] X.env
  refine pi_mono (pi_range3 (gl_of hS hg) (blt_of hC (by decide +kernel)) (pa_cons ha (pa_cons hb (pa_cons (pe_un un_neg pe_int) pa_nil rfl) s2) s1) (by rw [s1]) (by rw [s2]; rfl)) fun σ H Q ⟨G, F, env, ds, env', R, e, k⟩ => ?_
  obtain ⟨q, e1, e⟩ := obind e
  obtain ⟨q', e2, e⟩ := obind e
  obtain ⟨d, e3, e⟩ := obind e
  obtain ⟨d', e4, e⟩ := obind e
  refine two_ops R e1 e2 fun v u H2 F2 R2 E2 q1 q2 => ?_
  cases d <;> first | cases e | skip
  cases d' <;> first | cases e | skip
  cases opd_int (q1.opd R2 e3)
  cases opd_int (q2.opd R2 e4)
  simp only at e
  obtain ⟨ds', e5, e⟩ := obind e
  unfold dwnO at e5
  obtain ⟨hj, e5⟩ := oite e5
  cases e5
  cases e
  exact ⟨1, rfl, _, _, -1, _, rfl, RgC.neg (log_rg2 hj.1).1 (log_rg2 hj.1).2 (log_rg2 hj.2).1 (log_rg2 hj.2).2, k _ H2 F2 R2 E2 (walkD_down _ _)⟩
theorem sqaMono {K : PySem.W.Frag} {k : Bool} {F H : Hp} {a : Addr} {xs : List V} (e : Same F H) (h : SqA K k F a xs) : SqA K k H a xs := by
  cases k
  · exact sqtMono e h
  · exact sqlMono e h
theorem walk_zipM {K : PySem.W.Frag} {k1 k2 : Bool} {a b : Addr} {xs ys : List V} {m : Nat} (hn : m = min xs.length ys.length) : Walk (ItM K k1 k2 a b) m (fun H => SqA K k1 H a xs ∧ SqA K k2 H b ys) (YPair (fun i => xs[i]?) (fun i => ys[i]?)) := by
  subst hn
  refine ⟨fun i H hi q => ?_, fun H q => ⟨xs, ys, q.1, q.2, rfl⟩, fun i H v H' hi q y => ?_⟩
  · exact ⟨xs, ys, xs[i]'(by omega), ys[i]'(by omega), q.1, q.2, List.getElem?_eq_getElem (by omega), List.getElem?_eq_getElem (by omega)⟩
  · obtain ⟨T, x, z, h1, h2, h3, h4, h5⟩ := y
    exact ⟨T, x, z, h1, h2, h3, h4 xs q.1, h5 ys q.2⟩
theorem walkD_zipM {K : PySem.W.Frag} {k1 k2 : Bool} {F : Hp} {p p2 : Addr} {vs ws : List V} {ds es : List PyData} (h : SqA K k1 F p vs) (q : DqAll K F vs ds) (h2 : SqA K k2 F p2 ws) (q2 : DqAll K F ws es) : WalkD K F (ItM K k1 k2 p p2) (zipD ds es) := by
  refine ⟨fun H => SqA K k1 H p vs ∧ SqA K k2 H p2 ws, YPair (fun i => vs[i]?) (fun i => ws[i]?), ?_, fun H s => ⟨sqaMono s h, sqaMono s h2⟩, fun i H x H' F1 hi y m s => ?_⟩
  · exact walk_zipM (by rw [zipD_len, dpAll_len q, dpAll_len q2])
  · obtain ⟨T, a, b, e1, e2, e3, e4, e5⟩ := y
    obtain ⟨da, g1, k1⟩ := dpAll_get' q e4
    obtain ⟨db, g2, k2⟩ := dpAll_get' q2 e5
    obtain ⟨F2, c1, c2, c3, cn, c4, c5⟩ := pairStep e1 e2 e3 s (dpMono m _ k1) (dpMono m _ k2)
    exact ⟨F2, c1, c2, c3, cn, c4, _, zipD_get g1 g2, c5⟩
def YTrip (xs ys zs : List V) : Nat → Hp → V → Hp → Prop := fun i H v H' => ∃ T x y z, v = .ref T ∧ H T = none ∧ H' = upd H T (.tup [x, y, z]) ∧ xs[i]? = some x ∧ ys[i]? = some y ∧ zs[i]? = some z
theorem walk_zipM3 {K : PySem.W.Frag} {k1 k2 k3 : Bool} {a b c : Addr} {xs ys zs : List V} {m : Nat} (hn : m = min (min xs.length ys.length) zs.length) : Walk (ItM3 K k1 k2 k3 a b c) m (fun H => SqA K k1 H a xs ∧ SqA K k2 H b ys ∧ SqA K k3 H c zs) (YTrip xs ys zs) := by
  subst hn
  refine ⟨fun i H hi q => ?_, fun H q => ⟨xs, ys, zs, q.1, q.2.1, q.2.2, rfl⟩, fun i H v H' hi q y => ?_⟩
  · exact ⟨xs, ys, zs, xs[i]'(by omega), ys[i]'(by omega), zs[i]'(by omega), q.1, q.2.1, q.2.2, List.getElem?_eq_getElem (by omega), List.getElem?_eq_getElem (by omega), List.getElem?_eq_getElem (by omega)⟩
  · obtain ⟨T, x, y, z, h1, h2, h3, h4, h5, h6⟩ := y
    exact ⟨T, x, y, z, h1, h2, h3, h4 xs q.1, h5 ys q.2.1, h6 zs q.2.2⟩
theorem walkD_zipM3 {K : PySem.W.Frag} {k1 k2 k3 : Bool} {F : Hp} {p p2 p3 : Addr} {vs ws us : List V} {ds es fs : List PyData} (h : SqA K k1 F p vs) (q : DqAll K F vs ds) (h2 : SqA K k2 F p2 ws) (q2 : DqAll K F ws es)
    (h3 : SqA K k3 F p3 us) (q3 : DqAll K F us fs) : WalkD K F (ItM3 K k1 k2 k3 p p2 p3) (zip3D ds es fs) := by
  refine ⟨fun H => SqA K k1 H p vs ∧ SqA K k2 H p2 ws ∧ SqA K k3 H p3 us, YTrip vs ws us, ?_, fun H s => ⟨sqaMono s h, sqaMono s h2, sqaMono s h3⟩, fun i H x H' F1 hi y m s => ?_⟩
  · exact walk_zipM3 (by rw [zip3D_len, dpAll_len q, dpAll_len q2, dpAll_len q3])
  · obtain ⟨T, a, b, c, e1, e2, e3, e4, e5, e6⟩ := y
    obtain ⟨da, g1, k1⟩ := dpAll_get' q e4
    obtain ⟨db, g2, k2⟩ := dpAll_get' q2 e5
    obtain ⟨dc, g3, k3⟩ := dpAll_get' q3 e6
    obtain ⟨F2, c1, c2, c3, cn, c4, c5⟩ := tripStep e1 e2 e3 s (dpMono m _ k1) (dpMono m _ k2) (dpMono m _ k3)
    exact ⟨F2, c1, c2, c3, cn, c4, _, zip3D_get g1 g2 g3, c5⟩
/-- what has items stands as a list or a tuple -/
theorem seq_of {K : PySem.W.Frag} {F : Hp} {v : V} {d : PyData} {xs : List PyData} (h : Dq K F v d) (e : seqD d = some xs) : ∃ k a vs, v = .ref a ∧ SqA K k F a vs ∧ DqAll K F vs xs := by
  cases h <;> first | cases e | skip
  · rename_i h1 h2
    exact ⟨true, _, _, rfl, h1.sql, h2⟩
  · rename_i h1 h2
    exact ⟨false, _, _, rfl, h1, h2⟩
theorem walkD_enumT {K : PySem.W.Frag} {F : Hp} {p : Addr} {vs : List V} {ds : List PyData} (h : SqT K F p vs) (q : DqAll K F vs ds) : WalkD K F (IteT K p) (enumD 0 ds) := by
  refine ⟨fun H => SqT K H p vs, YPair (fun i => some (.int (i : Nat))) (fun i => vs[i]?), ?_, fun H s => sqtMono s h, fun i H x H' F1 hi y m s => ?_⟩
  · rw [enumD_len, ← dpAll_len q]
    exact walk_enumT
  · obtain ⟨T, a, b, e1, e2, e3, e4, e5⟩ := y
    have e4' : V.int (i : Nat) = a := Option.some.inj e4
    subst e4'
    obtain ⟨db, g2, k2⟩ := dpAll_get' q e5
    obtain ⟨F2, c1, c2, c3, cn, c4, c5⟩ := pairStep e1 e2 e3 s (.int (i : Nat)) (dpMono m _ k2)
    refine ⟨F2, c1, c2, c3, cn, c4, _, enumD_get g2, ?_⟩
    rw [Nat.zero_add]
    exact c5
theorem i_zip (hC : COk X C Γ n) (hS : SOk X S) {a b : IE} {z w : Expr} {x : Str} {p pos : Pos} (ht : isTupA tg = true) (hx : x = "zip") (hg : glS S x = true) (ha : PE X z (rE X.K Γ C.cons a)) (pz : plainA z = true) (hb : PE X w (rE X.K Γ C.cons b)) (pw : plainA w = true) :
    PI X tg (.Call (.Name x p) [z, w] [] pos) (rI X.K Γ C.cons (.zip a b)) := by
  subst hx
  have s2 := plain_star pw [] X.env
  have s1 := plain_star pz [w] X.env
  cases tg with
  | Tuple elts kk tp =>
    refine pi_mono (pi_zipM (gl_of hS hg) (blt_of hC (by decide +kernel)) (pa_cons ha (pa_cons hb pa_nil s2) s1) s1 (by rw [s2]; rfl)) fun σ H Q ⟨G, F, env, ds, env', R, e, k⟩ => ?_
    obtain ⟨q, e1, e⟩ := obind e
    obtain ⟨q', e2, e⟩ := obind e
    obtain ⟨xs, e3, e⟩ := obind e
    obtain ⟨ys, e4, e⟩ := obind e
    cases e
    refine ⟨G, F, env, q.1, q.2, R, e1, fun v H1 F1 R1 E1 q1 => ?_⟩
    obtain ⟨F2, R2, E2, k1⟩ := R.settle R1 E1 q1
    refine ⟨G, F2, q.2, q'.1, q'.2, R2, e2, fun u H3 F3 R3 E3 q3 => ?_⟩
    obtain ⟨F4, R4, E4, k2⟩ := R2.settle R3 E3 q3
    obtain ⟨t1, a1, vs1, rfl, h1, g1⟩ := seq_of (dpMono E4.mono _ k1) e3
    obtain ⟨t2, a2, vs2, rfl, h2, g2⟩ := seq_of k2 e4
    exact ⟨_, _, _, _, t1, t2, rfl, sqaMono R4.sub h1, sqaMono R4.sub h2, k _ H3 F4 R4 (E2.trans E4) (walkD_zipM h1 g1 h2 g2)⟩
  | _ => exact absurd ht Bool.false_ne_true
theorem i_zip3 (hC : COk X C Γ n) (hS : SOk X S) {a b c : IE} {z w y : Expr} {x : Str} {p pos : Pos} (ht : isTupA tg = true) (hx : x = "zip") (hg : glS S x = true) (ha : PE X z (rE X.K Γ C.cons a)) (pz : plainA z = true) (hb : PE X w (rE X.K Γ C.cons b)) (pw : plainA w = true)
    (hd : PE X y (rE X.K Γ C.cons c)) (py : plainA y = true) : PI X tg (.Call (.Name x p) [z, w, y] [] pos) (rI X.K Γ C.cons (.zip3 a b c)) := by
  subst hx
  have s3 := plain_star py [] X.env
  have s2 := plain_star pw [y] X.env
  have s1 := plain_star pz [w, y] X.env
  cases tg with
  | Tuple elts kk tp =>
    refine pi_mono (pi_zipM3 (gl_of hS hg) (blt_of hC (by decide +kernel)) (pa_cons ha (pa_cons hb (pa_cons hd pa_nil s3) s2) s1) s1 (by rw [s2, s3]; rfl)) fun σ H Q ⟨G, F, env, ds, env', R, e, k⟩ => ?_
    obtain ⟨q, e1, e⟩ := obind e
    obtain ⟨q', e2, e⟩ := obind e
    obtain ⟨q'', e0, e⟩ := obind e
    obtain ⟨xs, e3, e⟩ := obind e
    obtain ⟨ys, e4, e⟩ := obind e
    obtain ⟨zs, e5, e⟩ := obind e
    cases e
    refine ⟨G, F, env, q.1, q.2, R, e1, fun v H1 F1 R1 E1 q1 => ?_⟩
    obtain ⟨F2, R2, E2, k1⟩ := R.settle R1 E1 q1
    refine ⟨G, F2, q.2, q'.1, q'.2, R2, e2, fun u H3 F3 R3 E3 q3 => ?_⟩
    obtain ⟨F4, R4, E4, k2⟩ := R2.settle R3 E3 q3
    refine ⟨G, F4, q'.2, q''.1, q''.2, R4, e0, fun u5 H5 F5 R5 E5 q5 => ?_⟩
    obtain ⟨F6, R6, E6, k3⟩ := R4.settle R5 E5 q5
    obtain ⟨t1, a1, vs1, rfl, h1, g1⟩ := seq_of (dpMono E6.mono _ (dpMono E4.mono _ k1)) e3
    obtain ⟨t2, a2, vs2, rfl, h2, g2⟩ := seq_of (dpMono E6.mono _ k2) e4
    obtain ⟨t3, a3, vs3, rfl, h3, g3⟩ := seq_of k3 e5
    exact ⟨_, _, _, _, _, _, t1, t2, t3, rfl, sqaMono R6.sub h1, sqaMono R6.sub h2, sqaMono R6.sub h3, k _ H5 F6 R6 ((E2.trans E4).trans E6) (walkD_zipM3 h1 g1 h2 g2 h3 g3)⟩
  | _ => exact absurd ht Bool.false_ne_true
theorem i_enum (hC : COk X C Γ n) (hS : SOk X S) {a : IE} {z : Expr} {x : Str} {p pos : Pos} (ht : isTupA tg = true) (hx : x = "enumerate") (hg : glS S x = true) (ha : PE X z (rE X.K Γ C.cons a)) (pz : plainA z = true) :
    PI X tg (.Call (.Name x p) [z] [] pos) (rI X.K Γ C.cons (.enum a)) := by
  subst hx
  have s1 := plain_star pz [] X.env
  cases tg with
  | Tuple elts kk tp =>
    refine pi_mono (pi_enum2 (gl_of hS hg) (blt_of hC (by decide +kernel)) (pa_cons ha pa_nil s1) s1) fun σ H Q ⟨G, F, env, ds, env', R, e, k⟩ => ?_
    obtain ⟨q, e1, e⟩ := obind e
    refine ⟨G, F, env, q.1, q.2, R, e1, fun v H1 F1 R1 E1 q1 => ?_⟩
    obtain ⟨F2, R2, E2, k1⟩ := R.settle R1 E1 q1
    split at e
    · rename_i xs ed
      cases e
      rw [ed] at k1
      cases k1 with
      | lst h1 h2 => exact ⟨_, _, rfl, .inl ⟨(rdlMono R2.sub h1).sql, k _ H1 F2 R2 E2 (walkD_enumL h1 h2)⟩⟩
    · rename_i xs ed
      cases e
      rw [ed] at k1
      cases k1 with
      | tup h1 h2 => exact ⟨_, _, rfl, .inr ⟨sqtMono R2.sub h1, k _ H1 F2 R2 E2 (walkD_enumT h1 h2)⟩⟩
    · cases e
  | _ => exact absurd ht Bool.false_ne_true
/-! ### list(range(..)) -/
theorem dq_rng {K : PySem.W.Frag} {F : Hp} (a b : Int) : DqAll K F (rgV a b) (rngD a (b - a).toNat) := by
  unfold rgV rngD
  generalize List.range (b - a).toNat = l
  induction l with
  | nil => exact .nil
  | cons i r ih => exact .cons (.int _) ih
theorem f_lrg (hC : COk X C Γ n) (hS : SOk X S) {a : IE} {z : Expr} {x y : Str} {p p2 pos pos2 : Pos} (hx : x = "list") (hg : glS S x = true) (hy : y = "range") (hg2 : glS S y = true) (ha : PE X z (rH X.K Γ C.cons a)) (pz : plainA z = true) :
    PE X (.Call (.Name x p) [.Call (.Name y p2) [z] [] pos2] [] pos) (rE X.K Γ C.cons (.lrg a)) := by
  subst hx hy
  refine pe_mono (pe_listRg hC.calm (gl_of hS hg) (blt_of hC (by decide +kernel)) (prg_1 (gl_of hS hg2) (blt_of hC (by decide +kernel)) ha (plain_star pz _ _))) fun σ H Q ⟨G, F, env, r, env', R, e, k⟩ => ?_
  obtain ⟨q, e1, e⟩ := obind e
  obtain ⟨d, e2, e⟩ := obind e
  cases d <;> first | cases e | skip
  refine ⟨G, F, env, q.1, q.2, R, e1, fun v H1 F1 R1 E1 q1 => ?_⟩
  cases opd_int (q1.opd R1 e2)
  simp only at e
  obtain ⟨ds', e3, e⟩ := obind e
  unfold lrgO at e3
  obtain ⟨hj, e3⟩ := oite e3
  cases e3
  cases e
  exact ⟨_, rfl, ⟨(log_rg2 hj.1).1, (log_rg2 hj.1).2, (log_rg2 hj.2.1).1, (log_rg2 hj.2.1).2, hj.2.2⟩, fun D hD => (made_of E1 R1 k).o R1.sub (dq_rng _ _) hD⟩
theorem f_lrg2 (hC : COk X C Γ n) (hS : SOk X S) {a b : IE} {z w : Expr} {x y : Str} {p p2 pos pos2 : Pos} (hx : x = "list") (hg : glS S x = true) (hy : y = "range") (hg2 : glS S y = true) (ha : PE X z (rH X.K Γ C.cons a)) (pz : plainA z = true) (hb : PE X w (rH X.K Γ C.cons b)) (pw : plainA w = true) :
    PE X (.Call (.Name x p) [.Call (.Name y p2) [z, w] [] pos2] [] pos) (rE X.K Γ C.cons (.lrg2 a b)) := by
  subst hx hy
  refine pe_mono (pe_listRg hC.calm (gl_of hS hg) (blt_of hC (by decide +kernel)) (prg_2 (gl_of hS hg2) (blt_of hC (by decide +kernel)) ha hb (plain_star pz _ _) (plain_star pw _ _) (by rw [plain_star pw [] X.env]; rfl))) fun σ H Q ⟨G, F, env, r, env', R, e, k⟩ => ?_
  obtain ⟨q, e1, e⟩ := obind e
  obtain ⟨q', e2, e⟩ := obind e
  obtain ⟨d, e3, e⟩ := obind e
  obtain ⟨d', e4, e⟩ := obind e
  refine two_ops R e1 e2 fun v u H2 F2 R2 E2 q1 q2 => ?_
  cases d <;> first | cases e | skip
  cases d' <;> first | cases e | skip
  cases opd_int (q1.opd R2 e3)
  cases opd_int (q2.opd R2 e4)
  simp only at e
  obtain ⟨ds', e5, e⟩ := obind e
  unfold lrgO at e5
  obtain ⟨hj, e5⟩ := oite e5
  cases e5
  cases e
  exact ⟨_, _, rfl, rfl, ⟨(log_rg2 hj.1).1, (log_rg2 hj.1).2, (log_rg2 hj.2.1).1, (log_rg2 hj.2.1).2, hj.2.2⟩, fun D hD => (made_of E2 R2 k).o R2.sub (dq_rng _ _) hD⟩
/-! ### comprehensions -/
structure Wx (K : PySem.W.Frag) (P : Addr → Prop) (H F H' F' : Hp) : Prop where
  mono : Same F F'
  keep : ∀ b o, H b = some o → NT o → ¬ P b → H' b = some o
  live : ∀ b, H b ≠ none → H' b ≠ none
  fresh : ∀ b, F' b ≠ none → F b ≠ none ∨ H b = none ∨ P b
  tabs : Tm K H H'
theorem Wx.refl {K : PySem.W.Frag} {P : Addr → Prop} {H F : Hp} : Wx K P H F H F := ⟨Same.refl _, fun _ _ h _ _ => h, fun _ h => h, fun _ h => .inl h, Tm.refl _⟩
theorem Wx.trans {K : PySem.W.Frag} {P : Addr → Prop} {H F H1 F1 H2 F2 : Hp} (a : Wx K P H F H1 F1) (b : Wx K P H1 F1 H2 F2) : Wx K P H F H2 F2 := by
  refine ⟨a.mono.trans b.mono, fun c o h t n => b.keep c o (a.keep c o h t n) t n, fun c h => b.live c (a.live c h), fun c h => ?_, a.tabs.trans b.tabs⟩
  rcases b.fresh c h with z | z | z
  · exact a.fresh c z
  · refine .inr (.inl ?_)
    cases e : H c with
    | none => rfl
    | some o => exact absurd z (a.live c (by rw [e]; simp))
  · exact .inr (.inr z)
theorem Ext.wx {K : PySem.W.Frag} {σ : L2.St} {env env' : En} {H F H' F' : Hp} {P : Addr → Prop} (E : Ext K σ env H F H' F' env') (h : ∀ b, Own σ env b → P b) : Wx K P H F H' F' :=
  ⟨E.mono, fun b o a t n => E.keep b o a t fun z => n (h b z), E.live, fun b a => (E.fresh b a).imp_right fun z => z.imp_right (h b), E.tabs⟩
theorem Wx.poke {K : PySem.W.Frag} {P : Addr → Prop} {H F H' F' : Hp} {D : Addr} {o : HO} (w : Wx K P H F H' F') (hD : H D = none) (da : Da H' D) (nl : NL o := by first | exact NL.lst | exact NL.tup | exact NL.dK | exact NL.fdK | (intro _ _ z; cases z) | (intro _ _ z; unfold LamX.CodeO at z; cases z)) : Wx K P H F (upd H' D o) F' := by
  refine ⟨w.mono, fun b u a nt n => ?_, fun b a => ?_, w.fresh, w.tabs.trans (Tm.upd da nl)⟩
  · rw [upd_ne (ne_of_none a hD)]
    exact w.keep b u a nt n
  · by_cases hb : b = D
    · subst hb
      rw [upd_same]
      simp
    · rw [upd_ne hb]
      exact w.live b a
def lcTurn (Γ : Tab) (cons : List (Str × PyData)) (own : List (Str × Nat)) (g : IG) (c : IT) (e : IE) : PyData → En → Option (Option PyData × En) := fun d en => (runG g d en).bind fun en1 => (runT Γ cons c en1).bind fun t =>
  if t.1 = true then (runE Γ cons e t.2).bind fun y => some (some y.1.d, wipeE y.2 own) else some (none, wipeE t.2 own)
/-- the walk of a comprehension: T its turn on data, Cd what a turn checks ahead -/
theorem lc_fin {own : List (Str × Nat)} {g : IG} {c : IT} {e : IE} (hsl : ∀ i ∈ slotsG g, i ∈ ixs own) {σ : L2.St} {Q : VK} {G : Gh} {H1 F1 : Hp} {p2 : En} {ds : List PyData} {q : List PyData × En} {J : It} {Gd : Hp → Prop} {Y : Nat → Hp → V → Hp → Prop}
    {T : PyData → En → Option (Option PyData × En)} {Cd : En → Prop} (R1 : Rel X.K G σ H1 F1 p2) (hn : noOwn p2 own = true) (hz : q.1.length ≤ sizeLine) (wk : Walk J ds.length Gd Y) (hT : ∀ d en r, T d en = some r → Cd en ∧ lcTurn Γ C.cons own g c e d en = some r) (hend : Cd q.2)
    (wG : ∀ H2 F2 e2, Rel X.K G (wipe σ (ixs own)) H2 F2 e2 → Same F1 F2 → Cd e2 → Gd H2)
    (wY : ∀ i H x H' F2 e2, i < ds.length → Y i H x H' → Rel X.K G (wipe σ (ixs own)) H F2 e2 → Same F1 F2 → Cd e2 → ∃ F3, Same F2 F3 ∧ Same F3 H' ∧ Same H H' ∧ NFS H H' ∧ (∀ b, F3 b ≠ none → F2 b ≠ none ∨ H b = none) ∧ ∃ d, ds[i]? = some d ∧ Dq X.K F3 x d)
    (e2 : compD T ds (wipeE p2 own) = some q) (k : ∀ v H' F', Rel X.K G σ H' F' (backE p2 q.2 own) → Ext X.K σ p2 H1 F1 H' F' (backE p2 q.2 own) → RV X.K H1 H' F' v (.o q.1) → Q v H') (D : Addr) (hD : H1 D = none) :
    ∃ W : Nat → Nat → Hp → Prop, (∃ m, W 0 m (upd H1 D (.lst []))) ∧ ∀ i m H, W i m H →
      (J.stop i H ∧ Q (.ref D) H) ∨ (J.go i H ∧ ∃ Nx : Hp → Prop, (∀ H', Nx H' → ∃ m', m' < m ∧ W (i + 1) m' H') ∧ ∀ x H', J.yld i H x H' → rG X.K g x (wipe σ (ixs own)) H' fun σ2 H2 => wipe σ2 (ixs own) = wipe σ (ixs own) ∧ rT X.K Γ C.cons c σ2 H2 fun b H3 =>
        if b = true then rE X.K Γ C.cons e σ2 H3 fun y H4 => ∃ acc, H4 D = some (.lst acc) ∧ acc.length < sizeLine ∧ Nx (upd H4 D (.lst (acc ++ [y]))) else Nx H3) := by
  have hF1 : F1 D = none := R1.sub.free hD
  have hG0 : G.H0 D = none := by
    cases z : G.H0 D with
    | none => rfl
    | some o => exact absurd hD (R1.live D (by rw [z]; simp))
  have noD : ¬ Own σ p2 D := fun z => (R1.ownAt z).1 hD
  obtain ⟨RW, OW⟩ := R1.wiped own
  refine lc_it wk (fun i H2 => ∃ F2 e2 acc ds2 rest, Rel X.K G (wipe σ (ixs own)) H2 F2 e2 ∧ Wx X.K (Own σ p2) H1 F1 H2 F2 ∧ (∀ b, Own (wipe σ (ixs own)) e2 b → Own σ p2 b) ∧ H2 D = some (.lst acc) ∧ F2 D = none ∧ DqAll X.K F2 acc ds2 ∧
    compD T (ds.drop i) e2 = some (rest, q.2) ∧ ds2 ++ rest = q.1) ?_ ?_ ?_ ?_
  · exact ⟨F1, wipeE p2 own, [], [], q.1, RW.poke hG0 hF1 (fun z => noD (OW D z)) (Da.no hD), Wx.refl.poke hD (Da.no hD), OW, upd_same, hF1, .nil, e2, rfl⟩
  · rintro i H2 hi0 ⟨F2, e2, acc, ds2, rest, R2, w2, _, _, _, _, hc, _⟩
    refine wG H2 F2 e2 R2 w2.mono ?_
    by_cases hi : i < ds.length
    · rw [List.drop_eq_getElem_cons hi] at hc
      obtain ⟨t, ht, _⟩ := obind hc
      exact (hT _ _ _ ht).1
    · rw [List.drop_eq_nil_of_le (by omega)] at hc
      cases hc
      exact hend
  · rintro i x H2 H3 hi ⟨F2, en, acc, ds2, rest, R2, w2, ow2, hacc, hF2, qacc, hc, happ⟩ y
    have hcd : Cd en := by
      rw [List.drop_eq_getElem_cons hi] at hc
      obtain ⟨t, ht, _⟩ := obind hc
      exact (hT _ _ _ ht).1
    obtain ⟨F3, m1, m2, m3, nf, fr, d, hd, qd⟩ := wY i H2 x H3 F2 en hi y R2 w2.mono hcd
    obtain ⟨R3, E3⟩ := R2.grow m1 m2 m3 nf fr
    have hdr : ds.drop i = d :: ds.drop (i + 1) := by
      rw [List.drop_eq_getElem_cons hi]
      rw [List.getElem?_eq_getElem hi] at hd
      cases hd
      rfl
    rw [hdr] at hc
    obtain ⟨t, ht, hc⟩ := obind hc
    obtain ⟨u, hu, hc⟩ := obind hc
    have ht := (hT _ _ _ ht).2
    obtain ⟨en1, eg, ht⟩ := obind ht
    obtain ⟨b, eb, ht⟩ := obind ht
    have noD2 : ¬ Own (wipe σ (ixs own)) en D := fun z => noD (ow2 D z)
    have hD3 : H3 D = some (.lst acc) := m3 D _ hacc
    have hF3 : F3 D = none := by
      cases z : F3 D with
      | none => rfl
      | some o =>
        rcases fr D (by rw [z]; simp) with z2 | z2
        · exact absurd hF2 z2
        · rw [hacc] at z2
          cases z2
    refine ⟨G, F3, en, d, en1, R3, qd, eg, fun σ2 R4 l1 l2 l3 => ?_⟩
    have hwipe : wipe σ2 (ixs own) = wipe σ (ixs own) := by
      rw [wipe_eq l1 fun j hj => l2 j fun z => hj (hsl j z)]
      exact wipe_wipe σ (ixs own)
    refine ⟨hwipe, G, F3, en1, b.1, b.2, R4, eb, fun H5 F5 R5 E5 => ?_⟩
    have ow4 : ∀ a, Own σ2 en1 a → Own σ p2 a := fun a z => ow2 a (l3 a z)
    have w5 : Wx X.K (Own σ p2) H1 F1 H5 F5 := (w2.trans (E3.wx ow2)).trans (E5.wx ow4)
    have ow5 : ∀ a, Own σ2 b.2 a → Own σ p2 a := fun a z => ow4 a (E5.own a z)
    have hD5 : H5 D = some (.lst acc) := E5.keep D _ hD3 NT.lst fun z => noD (ow4 D z)
    have hF5 : F5 D = none := by
      cases z : F5 D with
      | none => rfl
      | some o =>
        rcases E5.fresh D (by rw [z]; simp) with z2 | z2 | z2
        · exact absurd hF3 z2
        · rw [hD3] at z2
          cases z2
        · exact absurd (ow4 D z2) noD
    cases hb : b.1 with
    | true =>
      rw [if_pos hb] at ht
      obtain ⟨y2, ey, ht⟩ := obind ht
      cases ht
      have hc : some (y2.1.d :: u.1, u.2) = some (rest, q.2) := hc
      have hq := Prod.mk.inj (Option.some.inj hc)
      have h1 : y2.1.d :: u.1 = rest := hq.1
      have h2 : u.2 = q.2 := hq.2
      subst h1
      refine iteT ⟨G, F5, b.2, y2.1, y2.2, R5, ey, fun v H6 F6 R6 E6 q6 => ?_⟩
      obtain ⟨F7, R7, E7, q7⟩ := R5.settle R6 E6 q6
      have hD6 : H6 D = some (.lst acc) := E7.keep D _ hD5 NT.lst fun z => noD (ow5 D z)
      have hF7 : F7 D = none := by
        cases z : F7 D with
        | none => rfl
        | some o =>
          rcases E7.fresh D (by rw [z]; simp) with z2 | z2 | z2
          · exact absurd hF5 z2
          · rw [hD5] at z2
            cases z2
          · exact absurd (ow5 D z2) noD
      obtain ⟨R8, O8⟩ := R7.wiped own
      rw [hwipe] at R8 O8
      have ow8 : ∀ a, Own (wipe σ (ixs own)) (wipeE y2.2 own) a → Own σ p2 a := fun a z => ow5 a (E7.own a (O8 a z))
      have w8 : Wx X.K (Own σ p2) H1 F1 H6 F7 := w5.trans (E7.wx ow5)
      have qacc7 : DqAll X.K F7 acc ds2 := dpAllMono (m1.trans (E5.mono.trans E7.mono)) _ qacc
      refine ⟨acc, hD6, ?_, F7, wipeE y2.2 own, acc ++ [v], ds2 ++ [y2.1.d], u.1, R8.poke hG0 hF7 (fun z => noD (ow8 D z)) (Da.of hD6 (.inl ⟨_, rfl⟩)), w8.poke hD (Da.of hD6 (.inl ⟨_, rfl⟩)), ow8, upd_same, hF7, dpAll_app qacc7 (.cons q7 .nil), by rw [← h2]; exact hu, ?_⟩
      · rw [dpAll_len qacc]
        have := congrArg List.length happ
        rw [List.length_append, List.length_cons] at this
        omega
      · rw [List.append_assoc]
        exact happ
    | false =>
      rw [if_neg (by rw [hb]; exact Bool.false_ne_true)] at ht
      cases ht
      cases hc
      obtain ⟨R8, O8⟩ := R5.wiped own
      rw [hwipe] at R8 O8
      exact iteF ⟨F5, wipeE b.2 own, acc, ds2, rest, R8, w5, fun a z => ow5 a (O8 a z), hD5, hF5, dpAllMono (m1.trans E5.mono) _ qacc, hu, happ⟩
  · rintro H2 ⟨F2, en, acc, ds2, rest, R2, w2, ow2, hacc, hF2, qacc, hc, happ⟩
    rw [List.drop_length] at hc
    cases hc
    rw [List.append_nil] at happ
    subst happ
    obtain ⟨Rb, Ob⟩ := R1.back hn R2 w2.mono
    exact k (.ref D) H2 F2 Rb ⟨w2.mono, w2.keep, w2.live, w2.fresh, fun b z => ow2 b (Ob b z), w2.tabs⟩ ⟨D, acc, rfl, hD, hF2, hacc, qacc⟩
theorem lcR {own : List (Str × Nat)} {g : IG} {it : II} {c : IT} {e : IE} (hsl : ∀ i ∈ slotsG g, i ∈ ixs own) {σ : L2.St} {H : Hp} {Q : VK} (h : rE X.K Γ C.cons (.lc own g it c e) σ H Q) :
    tLc (rI X.K Γ C.cons it) (rG X.K g) (rT X.K Γ C.cons c) (rE X.K Γ C.cons e) (own.map (·.2)) σ H Q := by
  obtain ⟨G, F, env, r, env', R, ev, k⟩ := h
  obtain ⟨p, e1, ev⟩ := obind ev
  obtain ⟨hn, ev⟩ := oite ev
  obtain ⟨q, e2, ev⟩ := obind ev
  obtain ⟨hz, ev⟩ := oite ev
  cases ev
  refine ⟨G, F, env, p.1, p.2, R, e1, fun J H1 F1 R1 E1 wd D hD => ?_⟩
  obtain ⟨Gd, Y, wk, wG, wY⟩ := wd.ex
  refine lc_fin (T := lcTurn Γ C.cons own g c e) (Cd := fun _ => True) hsl R1 hn hz wk (fun d en r h => ⟨trivial, h⟩) trivial (fun H2 F2 e2 R2 m _ => wG H2 (m.trans R2.sub)) (fun i H x H' F2 e2 hi y R2 m _ => wY i H x H' F2 hi y m R2.sub) e2 (fun v H' F' R' E' q' => k v H' F' R' (E1.trans E') ?_) D hD
  obtain ⟨D', acc, rfl, h1, h2, h3, h4⟩ := q'
  refine ⟨D', acc, rfl, ?_, h2, h3, h4⟩
  cases z : H D' with
  | none => rfl
  | some o => exact absurd h1 (E1.live D' (by rw [z]; simp))
/-! ### a comprehension over a name's own list, where it stands -/
mutual
theorem eqP_of : ∀ (a b : PyData), eqP a b = true → a = b
  | .none, b, h => by
    cases b <;> first | rfl | cases h
  | .bool x, b, h => by
    cases b with
    | bool y =>
      have h : (x == y) = true := h
      rw [eq_of_beq h]
    | _ => cases h
  | .int x, b, h => by
    cases b with
    | int y => rw [of_decide_eq_true (show decide (x = y) = true from h)]
    | _ => cases h
  | .str x, b, h => by
    cases b with
    | str y => rw [of_decide_eq_true (show decide (x = y) = true from h)]
    | _ => cases h
  | .list x, b, h => by
    cases b with
    | list y => rw [eqPs_of x y h]
    | _ => cases h
  | .tuple x, b, h => by
    cases b with
    | tuple y => rw [eqPs_of x y h]
    | _ => cases h
  | .dict _, b, h => by cases b <;> cases h
theorem eqPs_of : ∀ (a b : List PyData), eqPs a b = true → a = b
  | [], [], _ => rfl
  | [], _ :: _, h => by cases h
  | _ :: _, [], h => by cases h
  | x :: r, y :: s, h => by
    have h : (eqP x y && eqPs r s) = true := h
    rw [Bool.and_eq_true] at h
    rw [eqP_of x y h.1, eqPs_of r s h.2]
end
theorem sameL_of {env : En} {i : Nat} {ds : List PyData} (h : sameL env i ds = true) : ∃ s, env.at i = some s ∧ s.m = some (.l ds) := by
  unfold sameL atS at h
  split at h
  · rename_i es he
    cases eqPs_of _ _ h
    split at he
    · cases he
      exact ⟨_, by assumption, rfl⟩
    · cases he
      exact ⟨_, by assumption, rfl⟩
    · cases he
  · cases h
theorem atS_ofN {env : En} {i : Nat} {xs : List PyData} (h : atS env i = some xs) : ∃ s, env.at i = some s ∧ s.m = some (.l xs) := by
  unfold atS at h
  split at h
  · cases h
    exact ⟨_, by assumption, rfl⟩
  · cases h
    exact ⟨_, by assumption, rfl⟩
  · cases h
theorem walk_listN {K : PySem.W.Frag} {a : Addr} {n : Nat} : Walk (Itl K a) n (fun H => ∃ xs, SqL K H a xs ∧ xs.length = n) (fun i H x H' => H' = H ∧ ∀ xs, SqL K H a xs → xs[i]? = some x) :=
  ⟨fun i _ hi ⟨xs, q, e⟩ => ⟨xs, xs[i]'(by omega), q, by simp [show i < xs.length by omega]⟩, fun _ ⟨xs, q, e⟩ => ⟨xs, q, Nat.le_of_eq e⟩, fun _ _ _ _ _ _ y => ⟨y.1, fun xs q => y.2 xs q⟩⟩
theorem lclR {own : List (Str × Nat)} {i : Nat} {g : IG} {c : IT} {e : IE} (hsl : ∀ i ∈ slotsG g, i ∈ ixs own) {σ : L2.St} {H : Hp} {Q : VK} (h : rE X.K Γ C.cons (.lcl own i g c e) σ H Q) :
    tLc (iList X.K (tVar i)) (rG X.K g) (rT X.K Γ C.cons c) (rE X.K Γ C.cons e) (own.map (·.2)) σ H Q := by
  obtain ⟨G, F, env, r, env', R, ev, k⟩ := h
  obtain ⟨ds, e1, ev⟩ := obind ev
  obtain ⟨⟨hn, hi⟩, ev⟩ := oite ev
  obtain ⟨q, e2, ev⟩ := obind ev
  obtain ⟨⟨hend, hz⟩, ev⟩ := oite ev
  cases ev
  obtain ⟨s, a1, b1⟩ := atS_ofN e1
  obtain ⟨p, vs, g1, f1, h1, dq, _⟩ := R.mu i s ds a1 b1
  have ni : i ∉ ixs own := fun z => by
    obtain ⟨w, hw, e⟩ := List.mem_map.mp z
    have := List.all_eq_true.mp hi w hw
    rw [e] at this
    simp at this
  have at2 : ∀ H2 F2 e2, Rel X.K G (wipe σ (ixs own)) H2 F2 e2 → sameL e2 i ds = true → ∃ ws, H2 p = some (.lst ws) ∧ DqAll X.K F2 ws ds := fun H2 F2 e2 R2 hs => by
    obtain ⟨s2, a2, b2⟩ := sameL_of hs
    obtain ⟨p2, ws, g2, _, h2, dq2, _⟩ := R2.mu i s2 ds a2 b2
    rw [wipe_get σ i _ ni, g1] at g2
    cases g2
    exact ⟨ws, h2, dq2⟩
  refine ⟨.ref p, g1, p, rfl, ⟨vs, .inl (.inl h1)⟩, fun D hD => ?_⟩
  refine lc_fin (T := fun d en => if sameL en i ds = true then lcTurn Γ C.cons own g c e d en else none) (Cd := fun en => sameL en i ds = true) hsl R hn hz (walk_listN (n := ds.length)) (fun d en r h => oite h) hend (fun H2 F2 e2 R2 m hs => ?_) (fun j H x H' F2 e2 hj y R2 m hs => ?_) e2 (fun v H' F' R' E' q' => k v H' F' R' E' q') D hD
  · obtain ⟨ws, h2, dq2⟩ := at2 H2 F2 e2 R2 hs
    exact ⟨ws, .inl (.inl h2), dpAll_len dq2⟩
  · obtain ⟨ws, h2, dq2⟩ := at2 H F2 e2 R2 hs
    obtain ⟨rfl, y⟩ := y
    obtain ⟨d, ed, qd⟩ := dpAll_get' dq2 (y ws (.inl (.inl h2)))
    exact ⟨F2, Same.refl _, R2.sub, Same.refl _, .refl _, fun _ z => .inl z, d, ed, qd⟩
end
end PF

/-! PF9d: dicts: readings and forms. -/
namespace PF
open PySem PySem.Spec PyProof.Rows L2
section
variable {K : PySem.W.Frag} {G : Gh} {σ : L2.St} {H F : Hp} {env : En}
theorem dct_of (R : Rel K G σ H F env) {i : Nat} {kvs : List (PyData × PyData)} (h : dctAt env i = some kvs) : ∃ p ps, σ[i]? = some (some (.ref p)) ∧ Rd H p (.dK ps) ∧ DqKV K F ps kvs := by
  unfold dctAt at h
  split at h
  · rename_i k e
    cases h
    obtain ⟨p, vs, a, f, hp, q, _⟩ := R.muD i _ _ e rfl
    exact ⟨p, vs, a, .inl hp, q⟩
  · rename_i k e
    split at h
    · cases h
    rename_i hq
    cases h
    obtain ⟨v, a, q⟩ := R.val i _ e
    cases q with
    | dct h1 h2 => exact ⟨_, _, a, rdMono R.sub h1, h2⟩
    | fnc _ => exact absurd rfl hq
  · cases h
theorem key_of {x : V} {y : PyData} {k : L2.Key} (o : Opd K F H x y) (e : keyD y = some k) : x = kV k := by
  cases y <;> first | cases e | skip
  · cases opd_int o
    rfl
  · cases opd_str o
    rfl
theorem keyV_of {x : V} {y : PyData} {k : L2.Key} (o : Dq K F x y) (e : keyD y = some k) : x = kV k := by
  cases y <;> first | cases e | skip
  · cases o
    rfl
  · cases o
    rfl
theorem look_of {k : L2.Key} : ∀ {ps : List (L2.Key × V)} {kvs : List (PyData × PyData)}, DqKV K F ps kvs → (∀ d, dlook kvs k = some d → ∃ v, valV ps k = some v ∧ Dq K F v d) ∧ (dlook kvs k = none → valV ps k = none)
  | _, [], h => by
    cases h
    exact ⟨fun _ e => (by cases e), fun _ => rfl⟩
  | _, (y, e) :: r, h => by
    cases h with
    | @cons k' x ps _ _ _ h0 h1 h2 =>
      have ih := look_of (k := k) h2
      unfold dlook
      by_cases hk : k' = k
      · subst hk
        simp only [h0, if_true]
        rw [valV_pos (p := (k', x)) rfl]
        exact ⟨fun d z => (by cases z; exact ⟨_, rfl, h1⟩), fun z => (by cases z)⟩
      · have h3 : ¬ (some k' = some k) := fun z => hk (Option.some.inj z)
        simp only [h0, if_neg h3]
        rw [valV_neg (p := (k', x)) hk]
        exact ih
end
section
variable (K : PySem.W.Frag) (Γ : Tab) (C : List (Str × PyData))
/-- an expression whose value is data -/
def rD (e : IE) : TE := fun σ H Q => ∃ G F env r env', Rel K G σ H F env ∧ runE Γ C e env = some (r, env') ∧ ∀ v H' F', Rel K G σ H' F' env' → Ext K σ env H F H' F' env' → Dq K F' v r.d → Q v H'
def trsOf : IL → List (TE × TE)
  | .cons a (.cons b r) => (rD K Γ C a, rD K Γ C b) :: trsOf r
  | _ => []
end
section
variable {X : Cx} {C : Cfg} {S : Sc} {Γ : Tab} {n : Nat}
theorem chkL_nil0 {es : IL} (h : chkL C S es [] = true) : es = .nil := by
  cases es <;> first | rfl | exact absurd h Bool.false_ne_true
theorem d_of {a : IE} {z : Expr} (p : PE X z (rE X.K Γ C.cons a)) : PE X z (rD X.K Γ C.cons a) :=
  pe_mono p fun σ H Q ⟨G, F, env, r, env', R, e, k⟩ => ⟨G, F, env, r, env', R, e, fun v H' F' R' E' q => by
    obtain ⟨F2, R2, E2, q2⟩ := R.settle R' E' q
    exact k v H' F2 R2 E2 q2⟩
theorem pairs_run {K : PySem.W.Frag} {cs : List (Str × PyData)} : ∀ (m : Nat) (es : IL) (zs : List Expr), zs.length ≤ m → chkL C S es zs = true → zs.all plainA = true → ∀ {G : Gh} {σ : L2.St} {H F : Hp} {env : En} {hs : List Hd} {env' : En} {ds : List PyData} {kvs : List (PyData × PyData)} {Q : List (V × V) → Hp → Prop},
    Rel K G σ H F env → runV Γ cs es env = some (hs, env') → getD hs = some ds → pairsD ds = some kvs →
    (∀ ks H' F', Rel K G σ H' F' env' → Ext K σ env H F H' F' env' → DqKV K F' ks kvs → Q (ks.map fun kv => (kV kv.1, kv.2)) H') → tPairs (trsOf K Γ cs es) σ H Q := by
  intro m
  induction m with
  | zero =>
    intro es zs hm hc hp G σ H F env hs env' ds kvs Q R e1 e2 e3 k
    cases zs with
    | cons z zs => simp at hm
    | nil =>
      cases chkL_nil0 hc
      cases e1
      cases e2
      cases e3
      exact k [] H F R Ext.refl .nil
  | succ m ih =>
    intro es zs hm hc hp G σ H F env hs env' ds kvs Q R e1 e2 e3 k
    cases es with
    | nil =>
      cases e1
      cases e2
      cases e3
      exact k [] H F R Ext.refl .nil
    | io i r =>
      unfold runV at e1
      split at e1
      · obtain ⟨q, _, e1⟩ := obind e1
        cases e1
        cases e2
      · cases e1
    | star a r =>
      cases zs with
      | nil => exact absurd hc Bool.false_ne_true
      | cons z zs =>
        cases z <;> first | exact absurd hc Bool.false_ne_true | exact absurd hp Bool.false_ne_true
    | cons a r =>
      cases zs with
      | nil => exact absurd hc Bool.false_ne_true
      | cons z zs =>
        have hc : (chkE C S a [z] none && chkL C S r zs) = true := hc
        rw [Bool.and_eq_true] at hc
        rw [List.all_cons, Bool.and_eq_true] at hp
        obtain ⟨p1, f1, e1⟩ := obind e1
        obtain ⟨q, f2, e1⟩ := obind e1
        cases e1
        unfold getD at e2
        obtain ⟨es', g1, e2⟩ := obind e2
        cases e2
        cases r with
        | nil =>
          cases f2
          cases g1
          cases e3
        | io i r =>
          unfold runV at f2
          split at f2
          · obtain ⟨q, _, f2⟩ := obind f2
            cases f2
            cases g1
          · cases f2
        | star b r =>
          cases zs with
          | nil => exact absurd hc.2 Bool.false_ne_true
          | cons z2 zs => cases z2 <;> first | exact absurd hc.2 Bool.false_ne_true | exact absurd hp.2 Bool.false_ne_true
        | cons b r =>
          cases zs with
          | nil => exact absurd hc.2 Bool.false_ne_true
          | cons z2 zs =>
            have hc2 : (chkE C S b [z2] none && chkL C S r zs) = true := hc.2
            rw [Bool.and_eq_true] at hc2
            rw [List.all_cons, Bool.and_eq_true] at hp
            obtain ⟨p2, f3, f2⟩ := obind f2
            obtain ⟨q2, f4, f2⟩ := obind f2
            cases f2
            unfold getD at g1
            obtain ⟨es2, g2, g1⟩ := obind g1
            cases g1
            unfold pairsD at e3
            obtain ⟨ky, h1, e3⟩ := obind e3
            obtain ⟨l, h2, e3⟩ := obind e3
            cases e3
            refine ⟨G, F, env, p1.1, p1.2, R, f1, fun x H1 F1 R1 E1 d1 => ⟨G, F1, p1.2, p2.1, p2.2, R1, f3, fun y H2 F2 R2 E2 d2 => ?_⟩⟩
            refine ih r zs (by simp only [List.length_cons] at hm; omega) hc2.2 hp.2.2 R2 f4 g2 h2 fun ks H3 F3 R3 E3 q3 => ?_
            have hx := keyV_of d1 h1
            rw [hx]
            exact k ((ky, y) :: ks) H3 F3 R3 (E1.trans (E2.trans E3)) (.cons h1 (dpMono E3.mono _ d2) q3)
theorem f_dicN {es : IL} {ks : List (Option Expr)} {vs : List Expr} {zs : List Expr} {pos : Pos} (hz : kvE ks vs = some zs) (h15 : ks.length ≤ 15) (hc : chkL C S es zs = true) (hp : zs.all plainA = true) (h0 : ks ≠ []) (hl : ks.length = vs.length) (hall : ks.all (·.isSome) = true)
    (pp : PPs X pos ks vs (trsOf X.K Γ C.cons es)) : PE X (.Dict ks vs pos) (rE X.K Γ C.cons (.dic es)) := by
  refine pe_mono (pe_disp pp hall hl h0 h15) fun σ H Q ⟨G, F, env, r, env', R, e, k⟩ p hp0 => ?_
  obtain ⟨q, e1, e⟩ := obind e
  obtain ⟨ds, e2, e⟩ := obind e
  obtain ⟨kvs, e3, e⟩ := obind e
  have e : (if kvs.length ≤ 15 then some (Sl.w (mergeD [] kvs), q.2) else none) = some (r, env') := e
  split at e
  · rename_i hk
    cases e
    have fp : F p = none := R.sub.free hp0
    have no : ¬ Own σ env p := fun z => (R.ownAt z).1 hp0
    obtain ⟨R1, E1⟩ := R.grow (F' := F) (H' := upd H p (.dK [])) (Same.refl _) (fun b o z => by rw [upd_ne (ne_of_none z fp)]; exact R.sub b o z) (same_upd1 hp0) (.upd .dK) (fun b z => .inl z)
    refine pairs_run zs.length es zs (Nat.le_refl _) hc hp R1 e1 e2 e3 fun ks2 H2 F2 R2 E2 q2 => ?_
    have hp2 : H2 p = some (.dK []) := E2.keep p _ upd_same NT.dK no
    refine ⟨hp2, ks2, rfl, by rw [q2.len]; exact hk, ?_⟩
    have fp2 : F2 p = none := by
      cases z : F2 p with
      | none => rfl
      | some o =>
        rcases E2.fresh p (by rw [z]; simp) with y | y | y
        · exact absurd fp y
        · rw [upd_same] at y
          cases y
        · exact absurd y no
    have g0 : G.H0 p = none := by
      cases z : G.H0 p with
      | none => rfl
      | some o => exact absurd hp0 (R.live p (by rw [z]; simp))
    have no2 : ¬ Own σ q.2 p := fun z => no (E2.own p z)
    have R3 := R2.poke (o := .dK (mergeK [] ks2)) g0 fp2 no2 (Da.of hp2 (.inr (.inl ⟨_, rfl⟩))) .dK
    have E12 := E1.trans E2
    refine k _ _ F2 R3 ⟨E12.mono, fun b o h nt nb => ?_, fun b h => ?_, E12.fresh, E12.own, E12.tabs.trans (Tm.upd (Da.of hp2 (.inr (.inl ⟨_, rfl⟩))) .dK)⟩ ⟨p, _, rfl, hp0, fp2, upd_same, q2.merge .nil⟩
    · rw [upd_ne (ne_of_none h hp0)]
      exact E12.keep b o h nt nb
    · by_cases hb : b = p
      · subst hb
        rw [upd_same]
        simp
      · rw [upd_ne hb]
        exact E12.live b h
  · cases e
theorem f_dic0 {pos : Pos} : PE X (.Dict [] [] pos) (rE X.K Γ C.cons (.dic .nil)) := by
  refine pe_mono pe_dnewK fun σ H Q ⟨G, F, env, r, env', R, e, k⟩ p hp0 => ?_
  have e : some (Sl.w [], env) = some (r, env') := e
  cases e
  have fp : F p = none := R.sub.free hp0
  obtain ⟨R1, E1⟩ := R.grow (F' := F) (H' := upd H p (.dK [])) (Same.refl _) (fun b o z => by rw [upd_ne (ne_of_none z fp)]; exact R.sub b o z) (same_upd1 hp0) (.upd .dK) (fun b z => .inl z)
  exact k _ _ F R1 E1 ⟨p, [], rfl, hp0, fp, upd_same, .nil⟩
theorem f_dix (hC : COk X C Γ n) (hS : SOk X S) {i : Nat} {c : IE} {x : Str} {px pos : Pos} {y : Expr} (hx : nmS C S i x = true) (hk : chkE C S c [y] none = true) (pk : PE X y (rH X.K Γ C.cons c)) : PE X (.Subscript (.Name x px) y pos) (rE X.K Γ C.cons (.dix i c)) := by
  have pk2 := chk_plain _ _ _ _ hk
  refine pe_mono (pe_dget (by have := hC.units; omega) (pe_nm (p := px) hC hS hx) pk (by cases y <;> first | exact absurd pk2 Bool.false_ne_true | (intro _ _; rfl))) fun σ H Q ⟨G, F, env, r, env', R, e, k⟩ => ?_
  obtain ⟨k0, e0, e⟩ := obind e
  obtain ⟨p, e1, e⟩ := obind e
  obtain ⟨y, e2, e⟩ := obind e
  obtain ⟨z, e3, e⟩ := obind e
  obtain ⟨kvs, e4, e⟩ := obind e
  obtain ⟨d, e5, e⟩ := obind e
  cases e
  obtain ⟨a, _, g0, _⟩ := dct_of R e0
  refine ⟨.ref a, g0, G, F, env, p.1, p.2, R, e1, fun v H1 F1 R1 E1 q1 => ?_⟩
  obtain ⟨b, ps, g1, rd, q⟩ := dct_of R1 e4
  rw [g0] at g1
  cases g1
  obtain ⟨w, hw, qw⟩ := (look_of q).1 _ e5
  exact ⟨a, w, rfl, .inl ⟨ps, z, rd, key_of (q1.opd R1 e2) e3, hw.symm⟩, k _ _ _ R1 E1 qw⟩
theorem dinR {m : Bool} {i : Nat} {c : IE} {σ : L2.St} {H : Hp} {Q : VK} (h : rE X.K Γ C.cons (.din m i c) σ H Q) :
    rH X.K Γ C.cons c σ H fun y H1 => tVar i σ H1 fun x H2 => ∃ a o, x = .ref a ∧ DGet H2 a y o ∧ Q (.bl (xor m o.isSome)) H2 := by
  obtain ⟨G, F, env, r, env', R, e, k⟩ := h
  obtain ⟨p, e1, e⟩ := obind e
  obtain ⟨y, e2, e⟩ := obind e
  obtain ⟨z, e3, e⟩ := obind e
  obtain ⟨kvs, e4, e⟩ := obind e
  cases e
  refine ⟨G, F, env, p.1, p.2, R, e1, fun v H1 F1 R1 E1 q1 => ?_⟩
  obtain ⟨b, ps, g1, rd, q⟩ := dct_of R1 e4
  refine ⟨.ref b, g1, b, valV ps z, rfl, .inl ⟨ps, z, rd, key_of (q1.opd R1 e2) e3, rfl⟩, ?_⟩
  have hs : (valV ps z).isSome = (dlook kvs z).isSome := by
    have l := look_of (k := z) q
    cases hd : dlook kvs z with
    | none =>
      rw [l.2 hd]
      rfl
    | some d =>
      obtain ⟨w, hw, _⟩ := l.1 d hd
      rw [hw]
      rfl
  rw [hs]
  exact k _ _ _ R1 E1 (.bl _)
theorem din_bool {m : Bool} {i : Nat} {c : IE} : ∀ env r env', runE Γ C.cons (.din m i c) env = some (r, env') → ∃ t, r = .v (.bool t) := fun env r env' e => by
  obtain ⟨p, e1, e⟩ := obind e
  obtain ⟨y, e2, e⟩ := obind e
  obtain ⟨z, e3, e⟩ := obind e
  obtain ⟨kvs, e4, e⟩ := obind e
  cases e
  exact ⟨_, rfl⟩
theorem pc_dinM (hC : COk X C Γ n) (hS : SOk X S) {m : Bool} {i : Nat} {c : IE} {x : Str} {px : Pos} {y : Expr} (hx : nmS C S i x = true) (pk : PE X y (rH X.K Γ C.cons c)) :
    PC X (if m = true then CmpOp.NotIn else CmpOp.In) y (.Name x px) (fun σ H Q => rH X.K Γ C.cons c σ H fun y H1 => tVar i σ H1 fun x H2 => ∃ a o, x = .ref a ∧ DGet H2 a y o ∧ Q (.bl (xor m o.isSome)) H2) := by
  have hu : X.A.units + 1 < cLine := by have := hC.units; omega
  cases m with
  | true =>
    have h := pc_dnotin hu pk (pe_nm (p := px) hC hS hx)
    have e : ∀ b : Bool, xor true b = !b := fun b => by cases b <;> rfl
    simp only [e, if_true]
    exact h
  | false =>
    have h := pc_din hu pk (pe_nm (p := px) hC hS hx)
    have e : ∀ b : Bool, xor false b = b := fun b => by cases b <;> rfl
    simp only [e, Bool.false_eq_true, if_false]
    exact h
theorem f_din (hC : COk X C Γ n) (hS : SOk X S) {m : Bool} {i : Nat} {c : IE} {x : Str} {px pos : Pos} {y : Expr} (hx : nmS C S i x = true) (pk : PE X y (rH X.K Γ C.cons c)) :
    PE X (.Compare y [if m = true then CmpOp.NotIn else CmpOp.In] [.Name x px] pos) (rE X.K Γ C.cons (.din m i c)) :=
  pe_mono (pe_cmp (pc_dinM hC hS hx pk) (plain_marks rfl _)) fun _ _ _ h => dinR h
theorem f_dget (hC : COk X C Γ n) (hS : SOk X S) {i : Nat} {c d : IE} {x : Str} {px ap cp : Pos} {y z : Expr} (hx : nmS C S i x = true) (hl : (ap.endLine == cp.line) = true) (hk : plainA y = true) (hd : plainA z = true) (pk : PE X y (rH X.K Γ C.cons c)) (pd : PE X z (rE X.K Γ C.cons d)) :
    PE X (.Call (.Attribute (.Name x px) "get" ap) [y, z] [] cp) (rE X.K Γ C.cons (.dget i c d)) := by
  have tr : backTo cp (starEach [y, z] X.env) = [(false, eval y X.env), (false, eval z X.env)] := by
    rw [plain_star hk, plain_star hd]
    rfl
  refine pe_mono (pe_dget2 (by have := hC.units; omega) (pe_nm (p := px) hC hS hx) pk pd ⟨rfl, by rw [tr]; rfl, hl, tr⟩) fun σ H Q ⟨G, F, env, r, env', R, e, k⟩ => ?_
  obtain ⟨k0, e0, e⟩ := obind e
  obtain ⟨p, e1, e⟩ := obind e
  obtain ⟨q, e2, e⟩ := obind e
  obtain ⟨y, e3, e⟩ := obind e
  obtain ⟨z, e4, e⟩ := obind e
  obtain ⟨kvs, e5, e⟩ := obind e
  cases e
  obtain ⟨a, ps0, g0, rd0, _⟩ := dct_of R e0
  refine ⟨.ref a, g0, a, rfl, .inl ⟨ps0, rd0⟩, G, F, env, p.1, p.2, R, e1, fun v H1 F1 R1 E1 q1 => ⟨G, F1, p.2, q.1, q.2, R1, e2, fun w H2 F2 R2 E2 q2 => ?_⟩⟩
  obtain ⟨F3, R3, E3, q3⟩ := R1.settle R2 E2 q2
  obtain ⟨b, ps, g1, rd, qd⟩ := dct_of R3 e5
  rw [g0] at g1
  cases g1
  refine ⟨valV ps z, .inl ⟨ps, z, rd, key_of ((q1.mono E3.mono).opd R3 e3) e4, rfl⟩, k _ _ _ R3 (E1.trans E3) ?_⟩
  have l := look_of (k := z) qd
  cases hd : dlook kvs z with
  | none =>
    rw [l.2 hd]
    exact q3
  | some d =>
    obtain ⟨u, hu, qu⟩ := l.1 d hd
    rw [hu]
    exact qu
theorem f_bits {a : IE} {x : Str} {px ap cp : Pos} (hl : (ap.endLine == cp.line) = true) (pa : PE X (.Name x px) (rH X.K Γ C.cons a)) : PE X (.Call (.Attribute (.Name x px) "bit_length" ap) [] [] cp) (rE X.K Γ C.cons (.bits a)) := by
  refine pe_mono (pe_bits pa rfl hl) fun σ H Q ⟨G, F, env, r, env', R, e, k⟩ => ?_
  obtain ⟨p, e1, e⟩ := obind e
  obtain ⟨d, e2, e⟩ := obind e
  obtain ⟨z, e3, e⟩ := obind e
  cases e
  refine ⟨G, F, env, p.1, p.2, R, e1, fun v H1 F1 R1 E1 q1 => ?_⟩
  cases d <;> first | cases e3 | skip
  cases opd_int (q1.opd R1 e2)
  exact ⟨_, rfl, k _ _ _ R1 E1 (.int _)⟩
end
end PF

/-! PF9e: a dict walked by its keys (locked while it is walked); dict comprehensions. -/
namespace PF
open PySem PySem.Spec PyProof.Rows L2
/-! ### a dict locked -/
def plO : HO → Prop
  | .lst _ => True
  | .tup _ => True
  | .dK _ => True
  | _ => False
/-- what is read stays so, locked or not -/
def Tr (F F' : Hp) : Prop := ∀ p o, plO o → Rd F p o → Rd F' p o
section
variable {K : PySem.W.Frag}
theorem Tr.rdl {F F' : Hp} (t : Tr F F') {p : Addr} {vs : List V} (h : RdL K F p vs) : RdL K F' p vs := h.imp_left (t p _ trivial)
theorem Tr.sqt {F F' : Hp} (t : Tr F F') {p : Addr} {vs : List V} (h : SqT K F p vs) : SqT K F' p vs := h.imp_left (t p _ trivial)
mutual
theorem dqTr {F F' : Hp} (t : Tr F F') : ∀ (d : PyData) {v : V}, Dq K F v d → Dq K F' v d
  | .none, _, h => by
    cases h
    exact .non
  | .bool b, _, h => by
    cases h
    exact .bl b
  | .int i, _, h => by
    cases h
    exact .int i
  | .str x, _, h => by
    cases h
    exact .str x
  | .list ds, _, h => by
    cases h with
    | lst h1 h2 => exact .lst (t.rdl h1) (dqAllTr t ds h2)
  | .tuple ds, _, h => by
    cases h with
    | tup h1 h2 => exact .tup (t.sqt h1) (dqAllTr t ds h2)
  | .dict es, _, h => by
    cases h with
    | dct h1 h2 => exact .dct (t _ _ trivial h1) (dqKVTr t es h2)
    | fnc h1 => exact .fnc h1
theorem dqAllTr {F F' : Hp} (t : Tr F F') : ∀ (ds : List PyData) {vs : List V}, DqAll K F vs ds → DqAll K F' vs ds
  | [], _, h => by
    cases h
    exact .nil
  | d :: ds, _, h => by
    cases h with
    | cons h1 h2 => exact .cons (dqTr t d h1) (dqAllTr t ds h2)
theorem dqKVTr {F F' : Hp} (t : Tr F F') : ∀ (es : List (PyData × PyData)) {ps : List (L2.Key × V)}, DqKV K F ps es → DqKV K F' ps es
  | [], _, h => by
    cases h
    exact .nil
  | (_, e) :: es, _, h => by
    cases h with
    | cons h0 h1 h2 => exact .cons h0 (dqTr t e h1) (dqKVTr t es h2)
end
theorem ObR.tr {F F' : Hp} (m : Tr F F') {u : HO} {c : Ob} (h : ObR K F u c) : ObR K F' u c := by
  cases c with
  | l ds =>
    cases u with
    | lst vs => exact dqAllTr m ds h
    | _ => exact False.elim h
  | d kvs =>
    cases u with
    | dK vs => exact dqKVTr m kvs h
    | _ => exact False.elim h
theorem tr_lock {F : Hp} {d : Addr} {od : Obj} {ps : List (L2.Key × V)} (hF : F d = some (.dK ps)) : Tr F (upd F d (.frz od (.dK ps))) := fun p o _ h => by
  by_cases hp : p = d
  · subst hp
    rcases h with h | ⟨u, h⟩
    · rw [hF] at h
      cases h
      exact .inr ⟨od, upd_same⟩
    · rw [hF] at h
      cases h
  · rcases h with h | ⟨u, h⟩
    · exact .inl (by rw [upd_ne hp]; exact h)
    · exact .inr ⟨u, by rw [upd_ne hp]; exact h⟩
theorem tr_unlock {F : Hp} {d : Addr} {od : Obj} {ps : List (L2.Key × V)} (hF : F d = some (.frz od (.dK ps))) : Tr F (upd F d (.dK ps)) := fun p o hpl h => by
  by_cases hp : p = d
  · subst hp
    rcases h with h | ⟨u, h⟩
    · rw [hF] at h
      cases h
      exact hpl.elim
    · rw [hF] at h
      cases h
      exact .inl upd_same
  · rcases h with h | ⟨u, h⟩
    · exact .inl (by rw [upd_ne hp]; exact h)
    · exact .inr ⟨u, by rw [upd_ne hp]; exact h⟩
def lkH (d : Addr) (x : HO) (M : Hp) : Hp := fun b => if b = d then (if (M d).isSome = true then some x else none) else M b
def lkG (d : Addr) (x : HO) (G : Gh) : Gh := ⟨lkH d x G.H0, lkH d x G.F0, G.B⟩
theorem lkH_ne {d b : Addr} {x : HO} {M : Hp} (h : b ≠ d) : lkH d x M b = M b := if_neg h
theorem lkH_some {d : Addr} {x y : HO} {M : Hp} (h : lkH d x M d = some y) : y = x ∧ M d ≠ none := by
  unfold lkH at h
  rw [if_pos rfl] at h
  split at h
  · rename_i hs
    cases h
    exact ⟨rfl, fun z => by rw [z] at hs; cases hs⟩
  · cases h
theorem lkH_none {d b : Addr} {x : HO} {M : Hp} : lkH d x M b = none ↔ M b = none := by
  unfold lkH
  by_cases hb : b = d
  · subst hb
    rw [if_pos rfl]
    cases h : M b with
    | none => simp
    | some o => simp
  · rw [if_neg hb]
theorem Tm.unlk {d : Addr} {od : Obj} {u : HO} {M : Hp} : ∀ P q, TN K P q → LamX.TabS (lkH d (.frz od u) M) P q → LamX.TabS M P q := fun P q _ ⟨ps, h1, h2, h3⟩ => by
  have n1 : P ≠ d := by
    rintro rfl
    obtain ⟨z, _⟩ := lkH_some h1
    cases z
  refine ⟨ps, (lkH_ne n1).symm.trans h1, h2, fun pos cv hc => ?_⟩
  obtain ⟨c, e1, e2⟩ := h3 pos cv hc
  refine ⟨c, e1, ?_⟩
  have n2 : c ≠ d := by
    rintro rfl
    obtain ⟨z, _⟩ := lkH_some e2
    unfold LamX.CodeO at z
    cases z
  exact (lkH_ne n2).symm.trans e2
section
variable {G : Gh} {σ : L2.St} {H F : Hp} {env : En}
theorem Rel.lock (R : Rel K G σ H F env) {d : Addr} {ps : List (L2.Key × V)} {od : Obj} (hF : F d = some (.dK ps)) : Rel K (lkG d (.frz od (.dK ps)) G) σ (upd H d (.frz od (.dK ps))) (upd F d (.frz od (.dK ps))) env := by
  have t := tr_lock (od := od) hF
  have nd : ∀ p, F p = none → p ≠ d := fun p h z => by
    rw [z, hF] at h
    cases h
  refine ⟨R.len, fun b o e => ?_, fun b o e => ?_, fun b o e nt n => ?_, fun b h => ?_, fun b h => ?_, fun i z h => ?_, fun i s c h hm => ?_, R.apart, ⟨fun P q n z => (Tm.upd (Da.of (R.sub _ _ hF) (.inr (.inl ⟨_, rfl⟩))) NL.fdK).1 P q n (R.tabs.1 P q n (Tm.unlk P q n z)), fun b x vs e => ?_⟩, ⟨(R.ent.tm (Tm.upd (Da.of (R.sub _ _ hF) (.inr (.inl ⟨_, rfl⟩))))).1, fun P q z => ⟨lkH_none.mpr (R.ent.2 P q z).1, fun y => (R.ent.2 P q z).2 (lkH_none.mp y)⟩⟩⟩
  · by_cases hb : b = d
    · subst hb
      rw [upd_same] at e ⊢
      exact e
    · rw [upd_ne hb] at e ⊢
      exact R.sub b o e
  · by_cases hb : b = d
    · subst hb
      rw [(lkH_some e).1, upd_same]
    · rw [upd_ne hb]
      exact R.base b o ((lkH_ne hb).symm.trans e)
  · by_cases hb : b = d
    · subst hb
      rw [(lkH_some e).1, upd_same]
    · rw [upd_ne hb]
      exact R.fro b o ((lkH_ne hb).symm.trans e) nt n
  · by_cases hb : b = d
    · subst hb
      rw [upd_same]
      simp
    · rw [upd_ne hb]
      exact R.live b fun z => h (lkH_none.mpr z)
  · have h2 : F b ≠ none := by
      by_cases hb : b = d
      · rw [hb, hF]
        simp
      · rw [upd_ne hb] at h
        exact h
    rcases R.new b h2 with z | z
    · exact .inl fun y => z (lkH_none.mp y)
    · exact .inr (lkH_none.mpr z)
  · obtain ⟨v, a, q⟩ := R.val i z h
    exact ⟨v, a, dqTr t z q⟩
  · obtain ⟨p, u, a, f, hp, q, b1, b2⟩ := R.mug i s c h hm
    have hn := nd p f
    exact ⟨p, u, a, by rw [upd_ne hn]; exact f, by rw [upd_ne hn]; exact hp, q.tr t, fun z => lkH_none.mpr (b1 z), b2⟩
  · by_cases hb : b = d
    · subst hb
      rw [upd_same] at e
      cases e
    · rw [upd_ne hb] at e
      exact (lkH_ne hb).trans (R.tabs.2 b x vs e)
theorem Rel.unlock (R0 : Rel K G σ H F env) {d : Addr} {ps : List (L2.Key × V)} {od : Obj} (hF : F d = some (.dK ps)) {σ' : L2.St} {H' F' : Hp} {env' : En} (R : Rel K (lkG d (.frz od (.dK ps)) G) σ' H' F' env') (hF' : F' d = some (.frz od (.dK ps))) (tx : Tm K (upd H d (.frz od (.dK ps))) H') :
    Rel K G σ' (upd H' d (.dK ps)) (upd F' d (.dK ps)) env' := by
  have t := tr_unlock hF'
  have nd : ∀ p, F' p = none → p ≠ d := fun p h z => by
    rw [z, hF'] at h
    cases h
  refine ⟨R.len, fun b o e => ?_, fun b o e => ?_, fun b o e nt n => ?_, fun b h => ?_, fun b h => ?_, fun i z h => ?_, fun i s c h hm => ?_, R.apart, ((R0.tabs.trans (Tm.upd (Da.of (R0.sub _ _ hF) (.inr (.inl ⟨_, rfl⟩))))).trans tx).trans (Tm.upd (Da.of (R.sub _ _ hF') (.inr (.inr ⟨_, _, rfl⟩)))), ⟨(R.ent.tm (Tm.upd (Da.of (R.sub _ _ hF') (.inr (.inr ⟨_, _, rfl⟩))))).1, R0.ent.2⟩⟩
  · by_cases hb : b = d
    · subst hb
      rw [upd_same] at e ⊢
      exact e
    · rw [upd_ne hb] at e ⊢
      exact R.sub b o e
  · by_cases hb : b = d
    · subst hb
      rw [R0.base b o e] at hF
      cases hF
      exact upd_same
    · rw [upd_ne hb]
      exact R.base b o ((lkH_ne hb).trans e)
  · by_cases hb : b = d
    · subst hb
      have h1 := R0.fro b o e nt n
      rw [R0.sub b _ hF] at h1
      cases h1
      exact upd_same
    · rw [upd_ne hb]
      exact R.fro b o ((lkH_ne hb).trans e) nt n
  · by_cases hb : b = d
    · subst hb
      rw [upd_same]
      simp
    · rw [upd_ne hb]
      exact R.live b fun z => h (lkH_none.mp z)
  · have h2 : F' b ≠ none := by
      by_cases hb : b = d
      · rw [hb, hF']
        simp
      · rw [upd_ne hb] at h
        exact h
    rcases R.new b h2 with z | z
    · exact .inl fun y => z (lkH_none.mpr y)
    · exact .inr (lkH_none.mp z)
  · obtain ⟨v, a, q⟩ := R.val i z h
    exact ⟨v, a, dqTr t z q⟩
  · obtain ⟨p, u, a, f, hp, q, b1, b2⟩ := R.mug i s c h hm
    have hn := nd p f
    exact ⟨p, u, a, by rw [upd_ne hn]; exact f, by rw [upd_ne hn]; exact hp, q.tr t, fun z => lkH_none.mp (b1 z), b2⟩
theorem Ext.unlock (R0 : Rel K G σ H F env) {d : Addr} {ps : List (L2.Key × V)} {od : Obj} (hF : F d = some (.dK ps)) {H' F' : Hp} {env' : En} (E : Ext K σ env (upd H d (.frz od (.dK ps))) (upd F d (.frz od (.dK ps))) H' F' env') (hH' : H' d = some (.frz od (.dK ps))) :
    Ext K σ env H F (upd H' d (.dK ps)) (upd F' d (.dK ps)) env' := by
  refine ⟨fun b o e => ?_, fun b o e nt n => ?_, fun b h => ?_, fun b h => ?_, E.own, ((Tm.upd (Da.of (R0.sub _ _ hF) (.inr (.inl ⟨_, rfl⟩)))).trans E.tabs).trans (Tm.upd (Da.of hH' (.inr (.inr ⟨_, _, rfl⟩))))⟩
  · by_cases hb : b = d
    · subst hb
      rw [hF] at e
      cases e
      exact upd_same
    · rw [upd_ne hb]
      exact E.mono b o (by rw [upd_ne hb]; exact e)
  · by_cases hb : b = d
    · subst hb
      rw [R0.sub b _ hF] at e
      cases e
      exact upd_same
    · rw [upd_ne hb]
      exact E.keep b o (by rw [upd_ne hb]; exact e) nt n
  · by_cases hb : b = d
    · subst hb
      rw [upd_same]
      simp
    · rw [upd_ne hb]
      exact E.live b (by rw [upd_ne hb]; exact h)
  · by_cases hb : b = d
    · subst hb
      rw [hF]
      simp
    · rw [upd_ne hb] at h
      have := E.fresh b h
      rw [upd_ne hb, upd_ne hb] at this
      exact this
theorem RV.unlock (R0 : Rel K G σ H F env) {d : Addr} {ps : List (L2.Key × V)} {od : Obj} (hF : F d = some (.dK ps)) {H' F' : Hp} (hF' : F' d = some (.frz od (.dK ps))) {v : V} {r : Sl} (q : RV K (upd H d (.frz od (.dK ps))) H' F' v r) :
    RV K H (upd H' d (.dK ps)) (upd F' d (.dK ps)) v r := by
  have t := tr_unlock hF'
  have nd : ∀ p, F' p = none → p ≠ d := fun p h z => by
    rw [z, hF'] at h
    cases h
  cases r with
  | v d => exact dqTr t d q
  | b ds => exact q.elim
  | o ds =>
    obtain ⟨p, vs, rfl, h1, h2, h3, h4⟩ := q
    have hn := nd p h2
    rw [upd_ne hn] at h1
    exact ⟨p, vs, rfl, h1, by rw [upd_ne hn]; exact h2, by rw [upd_ne hn]; exact h3, dqAllTr t _ h4⟩
  | w kvs =>
    obtain ⟨p, vs, rfl, h1, h2, h3, h4⟩ := q
    have hn := nd p h2
    rw [upd_ne hn] at h1
    exact ⟨p, vs, rfl, h1, by rw [upd_ne hn]; exact h2, by rw [upd_ne hn]; exact h3, dqKVTr t _ h4⟩
theorem walkD_keys {d : Addr} {o : Obj} {ps : List (L2.Key × V)} {kvs : List (PyData × PyData)} (h : F d = some (.frz o (.dK ps))) (q : DqKV K F ps kvs) : WalkD K F (Itk d o ps) (kvs.map (·.1)) := by
  refine ⟨fun H => H d = some (.frz o (.dK ps)), fun i H x H' => H' = H ∧ ∃ k v, ps[i]? = some (k, v) ∧ x = kV k, ?_, fun H s => s _ _ h, fun i H x H' F1 hi y m s => ?_⟩
  · rw [List.length_map, ← q.len]
    exact walk_keys
  · obtain ⟨rfl, k, v, e, rfl⟩ := y
    obtain ⟨z, e2, q2⟩ := dpAll_get' (v := kV k) (kv_keys q) (by rw [List.getElem?_map, e]; rfl)
    exact ⟨F1, Same.refl _, s, Same.refl _, .refl _, fun _ z => .inl z, z, e2, dpMono m z q2⟩
end
theorem pe_or {X : Cx} {e : Expr} {t u : TE} (h : PE X e t) (h2 : PE X e u) : PE X e (fun σ H Q => t σ H Q ∨ u σ H Q) := ⟨fun pins s σ H Q I q => by
  rcases q with q | q
  · exact h.run pins s σ H Q I q
  · exact h2.run pins s σ H Q I q⟩
section
variable {X : Cx} {C : Cfg} {S : Sc} {Γ : Tab} {n : Nat} {tg : Expr}
theorem keysAt_of {env : En} {i : Nat} {ds : List PyData} (h : keysAt env i = some ds) : ∃ kvs, env.at i = some (.v (.dict kvs)) ∧ ds = kvs.map (·.1) ∧ fnQ kvs = false := by
  unfold keysAt at h
  split at h
  · split at h
    · cases h
    rename_i hq
    cases h
    exact ⟨_, by assumption, rfl, by simpa using hq⟩
  · cases h
theorem lcdR {own : List (Str × Nat)} {i : Nat} {g : IG} {c : IT} {e : IE} (hsl : ∀ i ∈ slotsG g, i ∈ ixs own) {σ : L2.St} {H : Hp} {Q : VK} (h : rE X.K Γ C.cons (.lcd own i g c e) σ H Q) :
    tLc (iKeys (tVar i)) (rG X.K g) (rT X.K Γ C.cons c) (rE X.K Γ C.cons e) (own.map (·.2)) σ H Q ∨ tLockE (tLc (iKeys (tVar i)) (rG X.K g) (rT X.K Γ C.cons c) (rE X.K Γ C.cons e) (own.map (·.2))) σ H Q := by
  obtain ⟨G, F, env, r, env', R, ev, k⟩ := h
  obtain ⟨ds, e1, ev⟩ := obind ev
  obtain ⟨hn, ev⟩ := oite ev
  obtain ⟨q, e2, ev⟩ := obind ev
  obtain ⟨hz, ev⟩ := oite ev
  cases ev
  obtain ⟨kvs, ea, rfl, hq⟩ := keysAt_of e1
  obtain ⟨v, av, qv⟩ := R.val i _ ea
  have key : ∀ (G' : Gh) (H1 F1 : Hp) (d : Addr) (o : Obj) (ps : List (L2.Key × V)) (Q' : VK), v = .ref d → Rel X.K G' σ H1 F1 env → F1 d = some (.frz o (.dK ps)) → DqKV X.K F1 ps kvs →
      (∀ v H' F', Rel X.K G' σ H' F' (backE env q.2 own) → Ext X.K σ env H1 F1 H' F' (backE env q.2 own) → RV X.K H1 H' F' v (.o q.1) → Q' v H') →
      tLc (iKeys (tVar i)) (rG X.K g) (rT X.K Γ C.cons c) (rE X.K Γ C.cons e) (own.map (·.2)) σ H1 Q' := fun G' H1 F1 d o ps Q' ed R1 hd qd k' => by
    subst ed
    refine ⟨.ref d, av, d, o, rfl, .inl ⟨ps, R1.sub _ _ hd, fun D hD => ?_⟩⟩
    obtain ⟨Gd, Y, wk, wG, wY⟩ := (walkD_keys hd qd).ex
    exact lc_fin (T := lcTurn Γ C.cons own g c e) (Cd := fun _ => True) hsl R1 hn hz wk (fun d en r h => ⟨trivial, h⟩) trivial (fun H2 F2 e2 R2 m _ => wG H2 (m.trans R2.sub)) (fun i H x H' F2 e2 hi y R2 m _ => wY i H x H' F2 hi y m R2.sub) e2 k' D hD
  cases qv with
  | fnc _ => cases hq
  | @dct d ps _ rd qd =>
    rcases rd with hd | ⟨o, hd⟩
    · refine .inr ⟨d, .dK ps, R.sub _ _ hd, trivial, fun od => ?_⟩
      refine key (lkG d (.frz od (.dK ps)) G) _ _ d od ps _ rfl (R.lock hd) upd_same (dqKVTr (tr_lock hd) _ qd) fun v H' F' R' E' q' => ?_
      have hF' : F' d = some (.frz od (.dK ps)) := E'.mono _ _ upd_same
      exact ⟨R'.sub _ _ hF', k v _ _ (R.unlock hd R' hF' E'.tabs) (Ext.unlock R hd E' (R'.sub _ _ hF')) (RV.unlock R hd hF' q')⟩
    · exact .inl (key G H F d o ps Q rfl R hd qd k)
end
/-! ### dict comprehensions -/
theorem dc_it {J : It} {n : Nat} {G : Hp → Prop} {Y : Nat → Hp → V → Hp → Prop} (w : Walk J n G Y) {g : TG} {tt : TT} {tk tv : TE} {vs : List Nat} {σ : L2.St} {H1 : Hp} {D : Addr} {Qd : Hp → Prop} (Pv : Nat → Hp → Prop) (h0 : Pv 0 (upd H1 D (.dK []))) (hG : ∀ i H, i ≤ n → Pv i H → G H)
    (hs : ∀ i x H H', i < n → Pv i H → Y i H x H' → g x (wipe σ vs) H' fun σ2 H2 => wipe σ2 vs = wipe σ vs ∧ tt σ2 H2 fun b H3 =>
      if b = true then tk σ2 H3 fun y H4 => tv σ2 H4 fun z H5 => ∃ kvs k, y = kV k ∧ H5 D = some (.dK kvs) ∧ kvs.length < sizeLine ∧ Pv (i + 1) (upd H5 D (.dK (putK kvs k z))) else Pv (i + 1) H3) (hd : ∀ H, Pv n H → Qd H) :
    ∃ W : Nat → Nat → Hp → Prop, (∃ m, W 0 m (upd H1 D (.dK []))) ∧ ∀ i m H, W i m H →
      (J.stop i H ∧ Qd H) ∨ (J.go i H ∧ ∃ Nx : Hp → Prop, (∀ H', Nx H' → ∃ m', m' < m ∧ W (i + 1) m' H') ∧ ∀ x H', J.yld i H x H' → g x (wipe σ vs) H' fun σ2 H2 => wipe σ2 vs = wipe σ vs ∧ tt σ2 H2 fun b H3 =>
        if b = true then tk σ2 H3 fun y H4 => tv σ2 H4 fun z H5 => ∃ kvs k, y = kV k ∧ H5 D = some (.dK kvs) ∧ kvs.length < sizeLine ∧ Nx (upd H5 D (.dK (putK kvs k z))) else Nx H3) := by
  refine ⟨fun i m H => m = n - i ∧ i ≤ n ∧ Pv i H, ⟨n, by simp, Nat.zero_le _, h0⟩, ?_⟩
  rintro i m H ⟨rfl, hi, p⟩
  have q := hG i H hi p
  by_cases hlt : i < n
  · exact .inr ⟨w.goes i H hlt q, Pv (i + 1), fun H' p' => ⟨n - (i + 1), by omega, rfl, hlt, p'⟩, fun x H' y => hs i x H H' hlt p (w.yields i H x H' hlt q y)⟩
  · have e : i = n := by omega
    subst e
    exact .inl ⟨w.stops H q, hd H p⟩
def dcTurn (Γ : Tab) (cons : List (Str × PyData)) (own : List (Str × Nat)) (g : IG) (c : IT) (k e : IE) : PyData → En → Option (Option PyData × En) := fun d en => (runG g d en).bind fun en1 => (runT Γ cons c en1).bind fun t =>
  if t.1 = true then (runE Γ cons k t.2).bind fun x => (runE Γ cons e x.2).bind fun y => (keyD x.1.d).bind fun _ => some (some (.tuple [x.1.d, y.1.d]), wipeE y.2 own) else some (none, wipeE t.2 own)
theorem prsD_app : ∀ {xs ys : List PyData} {ks ls : List (PyData × PyData)}, prsD xs = some ks → prsD ys = some ls → prsD (xs ++ ys) = some (ks ++ ls)
  | [], _, _, _, h, h' => by
    cases h
    exact h'
  | .tuple [a, b] :: r, ys, ks, ls, h, h' => by
    unfold prsD at h
    obtain ⟨k, e1, h⟩ := Option.bind_eq_some_iff.mp h
    obtain ⟨l, e2, h⟩ := Option.bind_eq_some_iff.mp h
    cases h
    rw [List.cons_append]
    unfold prsD
    rw [e1, prsD_app e2 h']
    rfl
  | .tuple [] :: r, _, _, _, e, _ => by cases e
  | .tuple [_] :: r, _, _, _, e, _ => by cases e
  | .tuple (_ :: _ :: _ :: _) :: r, _, _, _, e, _ => by cases e
  | .none :: r, _, _, _, e, _ => by cases e
  | .bool _ :: r, _, _, _, e, _ => by cases e
  | .int _ :: r, _, _, _, e, _ => by cases e
  | .str _ :: r, _, _, _, e, _ => by cases e
  | .list _ :: r, _, _, _, e, _ => by cases e
  | .dict _ :: r, _, _, _, e, _ => by cases e
theorem mergeD_snoc {ks kvs : List (PyData × PyData)} {a b : PyData} {ky : L2.Key} (h : keyD a = some ky) : mergeD ks (kvs ++ [(a, b)]) = dput (mergeD ks kvs) a ky b := by
  unfold mergeD
  rw [List.foldl_append]
  show (match keyD a with
    | some k => dput _ a k b
    | none => _) = _
  rw [h]
section
variable {X : Cx} {C : Cfg} {S : Sc} {Γ : Tab} {n : Nat} {tg : Expr}
theorem dcR {own : List (Str × Nat)} {g : IG} {it : II} {c : IT} {ke e : IE} (hsl : ∀ i ∈ slotsG g, i ∈ ixs own) {σ : L2.St} {H : Hp} {Q : VK} (h : rE X.K Γ C.cons (.dcm own g it c ke e) σ H Q) :
    tDc (rI X.K Γ C.cons it) (rG X.K g) (rT X.K Γ C.cons c) (rE X.K Γ C.cons ke) (rE X.K Γ C.cons e) (own.map (·.2)) σ H Q := by
  obtain ⟨G, F, env, r, env', R, ev, k⟩ := h
  obtain ⟨p, e1, ev⟩ := obind ev
  obtain ⟨hn, ev⟩ := oite ev
  obtain ⟨q, e2, ev⟩ := obind ev
  obtain ⟨hz, ev⟩ := oite ev
  obtain ⟨kq, e3, ev⟩ := obind ev
  cases ev
  refine ⟨G, F, env, p.1, p.2, R, e1, fun J H1 F1 R1 E1 wd D hD => ?_⟩
  obtain ⟨Gd, Y, wk, wG, wY⟩ := wd.ex
  have e2 : compD (dcTurn Γ C.cons own g c ke e) p.1 (wipeE p.2 own) = some q := e2
  revert e2 hn R1 E1 k
  generalize p.2 = p2
  intro hn k R1 E1 e2
  revert wY wk e2
  generalize p.1 = ds
  intro wk wY e2
  have hF1 : F1 D = none := R1.sub.free hD
  have hG0 : G.H0 D = none := by
    cases z : G.H0 D with
    | none => rfl
    | some o => exact absurd hD (R1.live D (by rw [z]; simp))
  have noD : ¬ Own σ p2 D := fun z => (R1.ownAt z).1 hD
  obtain ⟨RW, OW⟩ := R1.wiped own
  refine dc_it wk (fun i H2 => ∃ F2 e2 acc ds2 kv2 rest, Rel X.K G (wipe σ (ixs own)) H2 F2 e2 ∧ Wx X.K (Own σ p2) H1 F1 H2 F2 ∧ (∀ b, Own (wipe σ (ixs own)) e2 b → Own σ p2 b) ∧ H2 D = some (.dK acc) ∧ F2 D = none ∧ prsD ds2 = some kv2 ∧ DqKV X.K F2 acc (mergeD [] kv2) ∧ acc.length ≤ ds2.length ∧
    compD (dcTurn Γ C.cons own g c ke e) (ds.drop i) e2 = some (rest, q.2) ∧ ds2 ++ rest = q.1) ?_ ?_ ?_ ?_
  · exact ⟨F1, wipeE p2 own, [], [], [], q.1, RW.poke hG0 hF1 (fun z => noD (OW D z)) (Da.no hD), Wx.refl.poke hD (Da.no hD), OW, upd_same, hF1, rfl, .nil, Nat.le_refl _, e2, rfl⟩
  · rintro i H2 hi0 ⟨F2, e2, acc, ds2, kv2, rest, R2, w2, _⟩
    exact wG H2 (w2.mono.trans R2.sub)
  · rintro i x H2 H3 hi ⟨F2, en, acc, ds2, kv2, rest, R2, w2, ow2, hacc, hF2, hprs, qacc, hlen, hc, happ⟩ y
    obtain ⟨F3, m1, m2, m3, nf, fr, d, hd, qd⟩ := wY i H2 x H3 F2 hi y w2.mono R2.sub
    obtain ⟨R3, E3⟩ := R2.grow m1 m2 m3 nf fr
    have hdr : ds.drop i = d :: ds.drop (i + 1) := by
      rw [List.drop_eq_getElem_cons hi]
      rw [List.getElem?_eq_getElem hi] at hd
      cases hd
      rfl
    rw [hdr] at hc
    obtain ⟨t, ht, hc⟩ := obind hc
    obtain ⟨u, hu, hc⟩ := obind hc
    obtain ⟨en1, eg, ht⟩ := obind ht
    obtain ⟨b, eb, ht⟩ := obind ht
    have noD2 : ¬ Own (wipe σ (ixs own)) en D := fun z => noD (ow2 D z)
    have hD3 : H3 D = some (.dK acc) := m3 D _ hacc
    have hF3 : F3 D = none := by
      cases z : F3 D with
      | none => rfl
      | some o =>
        rcases fr D (by rw [z]; simp) with z2 | z2
        · exact absurd hF2 z2
        · rw [hacc] at z2
          cases z2
    refine ⟨G, F3, en, d, en1, R3, qd, eg, fun σ2 R4 l1 l2 l3 => ?_⟩
    have hwipe : wipe σ2 (ixs own) = wipe σ (ixs own) := by
      rw [wipe_eq l1 fun j hj => l2 j fun z => hj (hsl j z)]
      exact wipe_wipe σ (ixs own)
    refine ⟨hwipe, G, F3, en1, b.1, b.2, R4, eb, fun H5 F5 R5 E5 => ?_⟩
    have ow4 : ∀ a, Own σ2 en1 a → Own σ p2 a := fun a z => ow2 a (l3 a z)
    have w5 : Wx X.K (Own σ p2) H1 F1 H5 F5 := (w2.trans (E3.wx ow2)).trans (E5.wx ow4)
    have ow5 : ∀ a, Own σ2 b.2 a → Own σ p2 a := fun a z => ow4 a (E5.own a z)
    -- the new dict stays where no name owns it
    have kD : ∀ {Ha Fa Hb Fb : Hp} {ea eb : En}, Ext X.K σ2 ea Ha Fa Hb Fb eb → (∀ a, Own σ2 ea a → Own σ p2 a) → Ha D = some (.dK acc) → Fa D = none → Hb D = some (.dK acc) ∧ Fb D = none := fun {Ha Fa Hb Fb ea eb} Ex ow ha fa => by
      refine ⟨Ex.keep D _ ha NT.dK fun z => noD (ow D z), ?_⟩
      cases z : Fb D with
      | none => rfl
      | some o =>
        rcases Ex.fresh D (by rw [z]; simp) with z2 | z2 | z2
        · exact absurd fa z2
        · rw [ha] at z2
          cases z2
        · exact absurd (ow D z2) noD
    obtain ⟨hD5, hF5⟩ := kD E5 ow4 hD3 hF3
    cases hb : b.1 with
    | true =>
      rw [if_pos hb] at ht
      obtain ⟨xk, exk, ht⟩ := obind ht
      obtain ⟨y2, ey, ht⟩ := obind ht
      obtain ⟨ky, eky, ht⟩ := obind ht
      cases ht
      have hc : some (.tuple [xk.1.d, y2.1.d] :: u.1, u.2) = some (rest, q.2) := hc
      have hq := Prod.mk.inj (Option.some.inj hc)
      have h1 : .tuple [xk.1.d, y2.1.d] :: u.1 = rest := hq.1
      have h2 : u.2 = q.2 := hq.2
      subst h1
      refine iteT ⟨G, F5, b.2, xk.1, xk.2, R5, exk, fun v H6 F6 R6 E6 q6 => ?_⟩
      obtain ⟨F7, R7, E7, q7⟩ := R5.settle R6 E6 q6
      obtain ⟨hD6, hF7⟩ := kD E7 ow5 hD5 hF5
      have ow7 : ∀ a, Own σ2 xk.2 a → Own σ p2 a := fun a z => ow5 a (E7.own a z)
      refine ⟨G, F7, xk.2, y2.1, y2.2, R7, ey, fun v2 H8 F8 R8' E8 q8 => ?_⟩
      obtain ⟨F9, R9, E9, q9⟩ := R7.settle R8' E8 q8
      obtain ⟨hD8, hF9⟩ := kD E9 ow7 hD6 hF7
      obtain ⟨R8, O8⟩ := R9.wiped own
      rw [hwipe] at R8 O8
      have ow8 : ∀ a, Own (wipe σ (ixs own)) (wipeE y2.2 own) a → Own σ p2 a := fun a z => ow7 a (E9.own a (O8 a z))
      have w8 : Wx X.K (Own σ p2) H1 F1 H8 F9 := (w5.trans (E7.wx ow5)).trans (E9.wx ow7)
      have qacc7 : DqKV X.K F9 acc (mergeD [] kv2) := dpKVMono (m1.trans (E5.mono.trans (E7.mono.trans E9.mono))) _ qacc
      have hl2 : acc.length < sizeLine := by
        have := congrArg List.length happ
        rw [List.length_append, List.length_cons] at this
        omega
      refine ⟨acc, ky, keyV_of q7 eky, hD8, hl2, F9, wipeE y2.2 own, putK acc ky v2, ds2 ++ [.tuple [xk.1.d, y2.1.d]], kv2 ++ [(xk.1.d, y2.1.d)], u.1, R8.poke hG0 hF9 (fun z => noD (ow8 D z)) (Da.of hD8 (.inr (.inl ⟨_, rfl⟩))), w8.poke hD (Da.of hD8 (.inr (.inl ⟨_, rfl⟩))), ow8, upd_same, hF9, prsD_app hprs ?_, ?_, ?_, by rw [← h2]; exact hu, ?_⟩
      · unfold prsD prsD
        rw [eky]
        rfl
      · rw [mergeD_snoc eky]
        exact qacc7.put eky q9
      · have := length_putK acc ky v2
        rw [List.length_append, List.length_singleton]
        omega
      · rw [List.append_assoc]
        exact happ
    | false =>
      rw [if_neg (by rw [hb]; exact Bool.false_ne_true)] at ht
      cases ht
      cases hc
      obtain ⟨R8, O8⟩ := R5.wiped own
      rw [hwipe] at R8 O8
      exact iteF ⟨F5, wipeE b.2 own, acc, ds2, kv2, rest, R8, w5, fun a z => ow5 a (O8 a z), hD5, hF5, hprs, dpKVMono (m1.trans E5.mono) _ qacc, hlen, hu, happ⟩
  · rintro H2 ⟨F2, en, acc, ds2, kv2, rest, R2, w2, ow2, hacc, hF2, hprs, qacc, _, hc, happ⟩
    rw [List.drop_length] at hc
    cases hc
    rw [List.append_nil] at happ
    subst happ
    rw [hprs] at e3
    cases e3
    obtain ⟨Rb, Ob⟩ := R1.back hn R2 w2.mono
    refine k (.ref D) H2 F2 Rb (E1.trans ⟨w2.mono, w2.keep, w2.live, w2.fresh, fun b z => ow2 b (Ob b z), w2.tabs⟩) ⟨D, acc, rfl, ?_, hF2, hacc, qacc⟩
    cases z : H D with
    | none => rfl
    | some o => exact absurd hD (E1.live D (by rw [z]; simp))
end
end
end PF

set_option maxHeartbeats 4000000
/-! PF10: the soundness of expressions. -/
namespace PF
open PySem PySem.Spec PyProof.Rows L2
section
variable {X : Cx} {C : Cfg} {S : Sc} {Γ : Tab} {n : Nat}
theorem t_e {a : IE} {z : Expr} (ha : PE X z (rH X.K Γ C.cons a)) (ht : tstA z = true) : PT X z (rT X.K Γ C.cons (.e a)) :=
  pt_mono (pt_truth ha (plain_tst ht _)) fun σ H Q ⟨G, F, env, b, env', R, e, k⟩ => by
    obtain ⟨p, e1, e⟩ := obind e
    obtain ⟨d, e2, e⟩ := obind e
    obtain ⟨t, e3, e⟩ := obind e
    cases e
    exact ⟨G, F, env, p.1, p.2, R, e1, fun v H1 F1 R1 E1 q1 => ⟨_, opd_tru R1.sub (q1.opd R1 e2) e3, k H1 F1 R1 E1⟩⟩
/-- a test whose value is a truth -/
theorem t_bool {a : IE} (hb : ∀ env r env', runE Γ C.cons a env = some (r, env') → ∃ b, r = .v (.bool b)) (hx : ∀ (r : RE) (env : En), hd a r env = r.bind fun p => some (.d p.1.d, p.2)) {σ : L2.St} {H : Hp} {Q : Bool → Hp → Prop} (h : rT X.K Γ C.cons (.e a) σ H Q) :
    rE X.K Γ C.cons a σ H fun x H' => ∃ k, x = .bl k ∧ Q k H' := by
  obtain ⟨G, F, env, b, env', R, e, k⟩ := h
  obtain ⟨p, e1, e⟩ := obind e
  obtain ⟨d, e2, e⟩ := obind e
  obtain ⟨t, e3, e⟩ := obind e
  cases e
  rw [hx] at e1
  obtain ⟨q, e4, e1⟩ := obind e1
  cases e1
  obtain ⟨b', eb⟩ := hb env q.1 q.2 e4
  refine ⟨G, F, env, q.1, q.2, R, e4, fun v H1 F1 R1 E1 q1 => ?_⟩
  cases e2
  rw [eb] at q1 e3
  cases e3
  cases q1
  exact ⟨_, rfl, k H1 F1 R1 E1⟩
theorem cmp_bool {op : CmpOp} {a b : IE} : ∀ env r env', runE Γ C.cons (.cmp op a b) env = some (r, env') → ∃ t, r = .v (.bool t) := fun env r env' e => by
  obtain ⟨p, e1, e⟩ := obind e
  obtain ⟨q, e2, e⟩ := obind e
  obtain ⟨x, e3, e⟩ := obind e
  obtain ⟨y, e4, e⟩ := obind e
  obtain ⟨z, e5, e⟩ := obind e
  cases e
  exact ⟨_, rfl⟩
theorem ch_bool {op op' : CmpOp} {a b c : IE} : ∀ env r env', runE Γ C.cons (.ch op op' a b c) env = some (r, env') → ∃ t, r = .v (.bool t) := fun env r env' e => by
  obtain ⟨p, e1, e⟩ := obind e
  obtain ⟨q, e2, e⟩ := obind e
  obtain ⟨x, e3, e⟩ := obind e
  obtain ⟨y, e4, e⟩ := obind e
  obtain ⟨z, e5, e⟩ := obind e
  split at e
  · obtain ⟨w3, e6, e⟩ := obind e
    obtain ⟨y', e7, e⟩ := obind e
    obtain ⟨z', e8, e⟩ := obind e
    obtain ⟨r', e9, e⟩ := obind e
    cases e
    exact ⟨_, rfl⟩
  · cases e
    exact ⟨_, rfl⟩
theorem ch3_bool {op op' op'' : CmpOp} {a b c d : IE} : ∀ env r env', runE Γ C.cons (.ch3 op op' op'' a b c d) env = some (r, env') → ∃ t, r = .v (.bool t) := fun env r env' e => by
  obtain ⟨p, e1, e⟩ := obind e
  obtain ⟨q, e2, e⟩ := obind e
  obtain ⟨x, e3, e⟩ := obind e
  obtain ⟨y, e4, e⟩ := obind e
  obtain ⟨z, e5, e⟩ := obind e
  split at e
  · obtain ⟨w3, e6, e⟩ := obind e
    obtain ⟨y', e7, e⟩ := obind e
    obtain ⟨z', e8, e⟩ := obind e
    obtain ⟨r', e9, e⟩ := obind e
    split at e
    · obtain ⟨w4, e10, e⟩ := obind e
      obtain ⟨y2, e11, e⟩ := obind e
      obtain ⟨z2, e12, e⟩ := obind e
      obtain ⟨r2, e13, e⟩ := obind e
      cases e
      exact ⟨_, rfl⟩
    · cases e
      exact ⟨_, rfl⟩
  · cases e
    exact ⟨_, rfl⟩
theorem t_cmp (hC : COk X C Γ n) {op : CmpOp} {a b : IE} {x y : Expr} {pos : Pos} (ha : PE X x (rH X.K Γ C.cons a)) (hb : PE X y (rH X.K Γ C.cons b)) (py : plainA y = true) : PT X (.Compare x [op] [y] pos) (rT X.K Γ C.cons (.e (.cmp op a b))) :=
  pt_mono (pt_cmpR (op_cmp hC.units op) ha hb (plain_marks py op)) fun _ _ _ h => f_cmpR (t_bool cmp_bool (fun _ _ => rfl) h)
theorem t_ch (hC : COk X C Γ n) {op op' : CmpOp} {a b c : IE} {x y z : Expr} {pos : Pos} (ha : PE X x (rH X.K Γ C.cons a)) (hb : PE X y (rH X.K Γ C.cons b)) (hc : PE X z (rH X.K Γ C.cons c)) (pz : plainA z = true) :
    PT X (.Compare x [op, op'] [y, z] pos) (rT X.K Γ C.cons (.e (.ch op op' a b c))) :=
  pt_mono (pt_chain (op_cmp hC.units op) (op_cmp hC.units op') ha hb hc (marks2 pz)) fun _ _ _ h => f_chR (t_bool ch_bool (fun _ _ => rfl) h)
theorem t_ch3 (hC : COk X C Γ n) {op op' op'' : CmpOp} {a b c d : IE} {x y z t : Expr} {pos : Pos} (ha : PE X x (rH X.K Γ C.cons a)) (hb : PE X y (rH X.K Γ C.cons b)) (hc : PE X z (rH X.K Γ C.cons c)) (hd : PE X t (rH X.K Γ C.cons d)) (pt : plainA t = true) :
    PT X (.Compare x [op, op', op''] [y, z, t] pos) (rT X.K Γ C.cons (.e (.ch3 op op' op'' a b c d))) :=
  pt_mono (pt_chain3 (op_cmp hC.units op) (op_cmp hC.units op') (op_cmp hC.units op'') ha hb hc hd (marks3 pt)) fun _ _ _ h => f_chR3 (t_bool ch3_bool (fun _ _ => rfl) h)
theorem t_not {a : IT} {x : Expr} {pos : Pos} (ha : PT X x (rT X.K Γ C.cons a)) : PT X (.UnaryOp .Not x pos) (rT X.K Γ C.cons (.not a)) :=
  pt_mono (pt_not ha) fun σ H Q ⟨G, F, env, b, env', R, e, k⟩ => by
    obtain ⟨p, e1, e⟩ := obind e
    cases e
    exact ⟨G, F, env, p.1, p.2, R, e1, fun H1 F1 R1 E1 => k H1 F1 R1 E1⟩
theorem t_and {a b : IT} {x y : Expr} {r : List Expr} {pos : Pos} (ha : PT X x (rT X.K Γ C.cons a)) (hb : PW X (.BoolOp .And (y :: r) pos) (rT X.K Γ C.cons b)) : PW X (.BoolOp .And (x :: y :: r) pos) (rT X.K Γ C.cons (.and a b)) :=
  pw_mono (pw_and ha hb) fun σ H Q ⟨G, F, env, t, env', R, e, k⟩ => by
    obtain ⟨p, e1, e⟩ := obind e
    refine ⟨G, F, env, p.1, p.2, R, e1, fun H1 F1 R1 E1 => ?_⟩
    cases hb : p.1 with
    | true =>
      rw [if_pos hb] at e
      exact iteT ⟨G, F1, p.2, t, env', R1, e, fun H2 F2 R2 E2 => k H2 F2 R2 (E1.trans E2)⟩
    | false =>
      rw [if_neg (by rw [hb]; exact Bool.false_ne_true)] at e
      cases e
      exact iteF (k H1 F1 R1 E1)
theorem t_or {a b : IT} {x y : Expr} {r : List Expr} {pos : Pos} (ha : PT X x (rT X.K Γ C.cons a)) (hb : PW X (.BoolOp .Or (y :: r) pos) (rT X.K Γ C.cons b)) : PW X (.BoolOp .Or (x :: y :: r) pos) (rT X.K Γ C.cons (.or a b)) :=
  pw_mono (pw_or ha hb) fun σ H Q ⟨G, F, env, t, env', R, e, k⟩ => by
    obtain ⟨p, e1, e⟩ := obind e
    refine ⟨G, F, env, p.1, p.2, R, e1, fun H1 F1 R1 E1 => ?_⟩
    cases hb : p.1 with
    | true =>
      rw [if_pos hb] at e
      cases e
      exact iteT (k H1 F1 R1 E1)
    | false =>
      rw [if_neg (by rw [hb]; exact Bool.false_ne_true)] at e
      exact iteF ⟨G, F1, p.2, t, env', R1, e, fun H2 F2 R2 E2 => k H2 F2 R2 (E1.trans E2)⟩
theorem pts_mono {l : List Expr} {t t' : TT} (h : PTs X l t) (f : ∀ σ H Q, t' σ H Q → t σ H Q) : PTs X l t' := ⟨fun pins s σ H Q I q => h.run pins s σ H Q I (f σ H Q q)⟩
theorem ts_yes : PTs X [] (rT X.K Γ C.cons .yes) := pts_mono pts_nil fun σ H Q ⟨G, F, env, b, env', R, e, k⟩ => by
  cases e
  exact k H F R Ext.refl
theorem COk.blk (h : COk X C Γ n) (s : Shared) (H : Hp) (scope : Scope) (cenv : Env) (fp : List Addr) : COk (X.blk s H scope cenv fp) C Γ n :=
  ⟨h.calm, h.N, h.nd, h.room, h.guards, h.blt, h.cons, h.fns⟩
theorem SOk.blk (h : SOk X S) (s : Shared) (H : Hp) (scope : Scope) (cl : List (Str × Addr)) (A : Addr) (fp : List Addr) :
    SOk (X.blk s H scope (compEnvC scope cl A X.env) fp) ⟨relS scope S.sc, fun x => scope.names.lookup x == some .cell⟩ := by
  refine ⟨?_, fun x h => h⟩
  show relabel scope X.env = relS scope S.sc
  rw [← h.sc]
  rfl
def Both (X : Cx) (t : TE) (l : List Expr) (k : Option BoolOp) : Prop := (∀ z, l = [z] → PE X z t) ∧ ∀ op pos, k = some op → l ≠ [] → PE X (.BoolOp op l pos) t
theorem both1 {t : TE} {z : Expr} {k : Option BoolOp} (h : PE X z t) : Both X t [z] k := ⟨fun z' e => by
  cases e
  exact h, fun op pos _ _ => pe_one h⟩
def BothT (X : Cx) (t : TT) (l : List Expr) (k : Option BoolOp) : Prop := (∀ z, l = [z] → PT X z t) ∧ ∀ op pos, k = some op → l ≠ [] → PW X (.BoolOp op l pos) t
theorem bothT1 {t : TT} {z : Expr} {k : Option BoolOp} (h : PT X z t) : BothT X t [z] k := ⟨fun z' e => by
  cases e
  exact h, fun op pos _ _ => by
    cases op with
    | And => exact pw_and1 h
    | Or => exact pw_or1 h⟩
theorem tgs_in {g : IG} {own : List (Str × Nat)} (h : (slotsG g).all (fun i => own.any fun p => decide (p.2 = i)) = true) : ∀ i ∈ slotsG g, i ∈ ixs own := fun i hi => by
  have := List.all_eq_true.mp h i hi
  obtain ⟨p, hp, e⟩ := List.any_eq_true.mp this
  exact List.mem_map.mpr ⟨p, hp, of_decide_eq_true e⟩
theorem chkI_plain (it : II) {tg z : Expr} (h : chkI C S it tg z = true) : plainA z = true := by
  cases it with
  | e a => exact chk_plain _ _ _ _ h
  | _ =>
    cases z <;> first
      | rfl
      | exact absurd h Bool.false_ne_true
theorem chkI_folded (it : II) {tg z : Expr} (h : chkI C S it tg z = true) (env : Env) (x : Value) : foldedSetIterable z env x = pure x := plain_folded (chkI_plain it h) env x
theorem chkL_nil {es : IL} (h : chkL C S es [] = true) : es = .nil := by
  cases es with
  | nil => rfl
  | _ => exact absurd h Bool.false_ne_true
end
theorem and3 {a b c : Bool} (h : (a && b && c) = true) : a = true ∧ b = true ∧ c = true := by
  rw [Bool.and_eq_true, Bool.and_eq_true] at h
  exact ⟨h.1.1, h.1.2, h.2⟩
theorem and2 {a b : Bool} (h : (a && b) = true) : a = true ∧ b = true := by
  rw [Bool.and_eq_true] at h
  exact h
theorem t_din (hC : COk X C Γ n) (hS : SOk X S) {m : Bool} {i : Nat} {c : IE} {x : Str} {px pos : Pos} {y : Expr} (hx : nmS C S i x = true) (pk : PE X y (rH X.K Γ C.cons c)) :
    PT X (.Compare y [if m = true then CmpOp.NotIn else CmpOp.In] [.Name x px] pos) (rT X.K Γ C.cons (.e (.din m i c))) :=
  pt_mono (pt_cmp (pc_dinM hC hS hx pk) (plain_marks rfl _)) fun _ _ _ h => dinR (t_bool din_bool (fun _ _ => rfl) h)
theorem kvE_cons {ks : List (Option Expr)} {vs : List Expr} {z : Expr} {zs : List Expr} (h : kvE ks vs = some (z :: zs)) : ∃ k v ks' vs' zs', ks = some k :: ks' ∧ vs = v :: vs' ∧ z :: zs = k :: v :: zs' ∧ kvE ks' vs' = some zs' := by
  unfold kvE at h
  split at h
  · cases h
  · rename_i k ks v vs
    cases e : kvE ks vs with
    | none =>
      rw [e] at h
      cases h
    | some r =>
      rw [e] at h
      exact ⟨k, v, ks, vs, r, rfl, rfl, (Option.some.inj h).symm, e⟩
  · cases h
theorem kvE_nil {ks : List (Option Expr)} {vs : List Expr} (h : kvE ks vs = some []) : ks = [] ∧ vs = [] := by
  unfold kvE at h
  split at h
  · exact ⟨rfl, rfl⟩
  · rename_i k ks v vs
    cases e : kvE ks vs with
    | none =>
      rw [e] at h
      cases h
    | some r =>
      rw [e] at h
      cases h
  · cases h
theorem kvE_len : ∀ {ks : List (Option Expr)} {vs : List Expr} {zs : List Expr}, kvE ks vs = some zs → ks.length = vs.length
  | ks, vs, [], h => by
    obtain ⟨rfl, rfl⟩ := kvE_nil h
    rfl
  | ks, vs, [z], h => by
    obtain ⟨k, v, ks', vs', zs', rfl, rfl, e, h'⟩ := kvE_cons h
    cases e
  | ks, vs, z :: z2 :: zs, h => by
    obtain ⟨k, v, ks', vs', zs', rfl, rfl, e, h'⟩ := kvE_cons h
    cases e
    rw [List.length_cons, List.length_cons, kvE_len h']
theorem kvE_all : ∀ {ks : List (Option Expr)} {vs : List Expr} {zs : List Expr}, kvE ks vs = some zs → ks.all (·.isSome) = true
  | ks, vs, [], h => by
    obtain ⟨rfl, rfl⟩ := kvE_nil h
    rfl
  | ks, vs, [z], h => by
    obtain ⟨k, v, ks', vs', zs', rfl, rfl, e, h'⟩ := kvE_cons h
    cases e
  | ks, vs, z :: z2 :: zs, h => by
    obtain ⟨k, v, ks', vs', zs', rfl, rfl, e, h'⟩ := kvE_cons h
    cases e
    rw [List.all_cons, kvE_all h']
    rfl
mutual
theorem sE {C : Cfg} {Γ : Tab} {n : Nat} : ∀ (e : IE) {X : Cx} {S : Sc} (hC : COk X C Γ n) (hS : SOk X S) (l : List Expr) (k : Option BoolOp), chkE C S e l k = true → Both X (rE X.K Γ C.cons e) l k
  | .k d, X, S, hC, hS, l, k, h => by
    unfold chkE at h
    split at h
    · exact both1 (f_k h)
    · cases h
  | .g x, X, S, hC, hS, l, k, h => by
    unfold chkE at h
    split at h
    · obtain ⟨h1, h2, h3⟩ := and3 h
      cases of_decide_eq_true h1
      exact both1 (f_g hC hS h2 h3)
    · cases h
  | .x i, X, S, hC, hS, l, k, h => by
    unfold chkE at h
    split at h
    · exact both1 (f_x hC hS h)
    · cases h
  | .bin op a b, X, S, hC, hS, l, k, h => by
    unfold chkE at h
    split at h
    · obtain ⟨h1, h2, h3⟩ := and3 h
      cases of_decide_eq_true h1
      exact both1 (f_bin hC (h_of hC hS h2 ((sE a hC hS _ _ h2).1 _ rfl)) (h_of hC hS h3 ((sE b hC hS _ _ h3).1 _ rfl)))
    · cases h
  | .neg a, X, S, hC, hS, l, k, h => by
    unfold chkE at h
    split at h
    · exact both1 (f_neg (h_of hC hS h ((sE a hC hS _ _ h).1 _ rfl)))
    · cases h
  | .not a, X, S, hC, hS, l, k, h => by
    unfold chkE at h
    split at h
    · exact both1 (f_not (h_of hC hS h ((sE a hC hS _ _ h).1 _ rfl)))
    · cases h
  | .and a b, X, S, hC, hS, l, k, h => by
    unfold chkE at h
    split at h
    · obtain ⟨h2, h3⟩ := and2 h
      exact both1 (f_and ((sE a hC hS _ _ h2).1 _ rfl) ((sE b hC hS _ _ h3).2 _ _ rfl (by simp)))
    · obtain ⟨h2, h3⟩ := and2 h
      refine ⟨fun z e => by simp at e, fun op pos e _ => ?_⟩
      cases e
      exact f_and ((sE a hC hS _ _ h2).1 _ rfl) ((sE b hC hS _ _ h3).2 _ _ rfl (by simp))
    · cases h
  | .or a b, X, S, hC, hS, l, k, h => by
    unfold chkE at h
    split at h
    · obtain ⟨h2, h3⟩ := and2 h
      exact both1 (f_or ((sE a hC hS _ _ h2).1 _ rfl) ((sE b hC hS _ _ h3).2 _ _ rfl (by simp)))
    · obtain ⟨h2, h3⟩ := and2 h
      refine ⟨fun z e => by simp at e, fun op pos e _ => ?_⟩
      cases e
      exact f_or ((sE a hC hS _ _ h2).1 _ rfl) ((sE b hC hS _ _ h3).2 _ _ rfl (by simp))
    · cases h
  | .cmp op a b, X, S, hC, hS, l, k, h => by
    unfold chkE at h
    split at h
    · obtain ⟨h1, h2, h3⟩ := and3 h
      cases of_decide_eq_true h1
      exact both1 (f_cmp hC (h_of hC hS h2 ((sE a hC hS _ _ h2).1 _ rfl)) (h_of hC hS h3 ((sE b hC hS _ _ h3).1 _ rfl)) (chk_plain _ _ _ _ h3))
    · cases h
  | .ch3 op op' op'' a b c d, X, S, hC, hS, l, k, h => by
    unfold chkE at h
    split at h
    · obtain ⟨h, h7⟩ := and2 h
      obtain ⟨h, h6⟩ := and2 h
      obtain ⟨h, h5⟩ := and2 h
      obtain ⟨h, h4⟩ := and2 h
      obtain ⟨h1, h2, h3⟩ := and3 h
      cases of_decide_eq_true h1
      cases of_decide_eq_true h2
      cases of_decide_eq_true h3
      exact both1 (f_ch3 hC (h_of hC hS h4 ((sE a hC hS _ _ h4).1 _ rfl)) (h_of hC hS h5 ((sE b hC hS _ _ h5).1 _ rfl)) (h_of hC hS h6 ((sE c hC hS _ _ h6).1 _ rfl)) (h_of hC hS h7 ((sE d hC hS _ _ h7).1 _ rfl)) (chk_plain _ _ _ _ h7))
    · cases h
  | .ch op op' a b c, X, S, hC, hS, l, k, h => by
    unfold chkE at h
    split at h
    · obtain ⟨h, h5⟩ := and2 h
      obtain ⟨h, h4⟩ := and2 h
      obtain ⟨h1, h2, h3⟩ := and3 h
      cases of_decide_eq_true h1
      cases of_decide_eq_true h2
      exact both1 (f_ch hC (h_of hC hS h3 ((sE a hC hS _ _ h3).1 _ rfl)) (h_of hC hS h4 ((sE b hC hS _ _ h4).1 _ rfl)) (h_of hC hS h5 ((sE c hC hS _ _ h5).1 _ rfl)) (chk_plain _ _ _ _ h5))
    · cases h
  | .ife t a b, X, S, hC, hS, l, k, h => by
    unfold chkE at h
    split at h
    · obtain ⟨h1, h2, h3⟩ := and3 h
      exact both1 (f_ife ((sT t hC hS _ _ h1).1 _ rfl) ((sE a hC hS _ _ h2).1 _ rfl) ((sE b hC hS _ _ h3).1 _ rfl))
    · cases h
  | .ix a b, X, S, hC, hS, l, k, h => by
    unfold chkE at h
    split at h
    · obtain ⟨h2, h3⟩ := and2 h
      exact both1 (f_ix (h_of hC hS h2 ((sE a hC hS _ _ h2).1 _ rfl)) (h_of hC hS h3 ((sE b hC hS _ _ h3).1 _ rfl)) (chk_plain _ _ _ _ h3))
    · cases h
  | .sl a lo hi, X, S, hC, hS, l, k, h => by
    unfold chkE at h
    split at h
    · obtain ⟨h1, h2, h3⟩ := and3 h
      exact both1 (f_sl (h_of hC hS h1 ((sE a hC hS _ _ h1).1 _ rfl)) (sO lo hC hS _ h2) (sO hi hC hS _ h3))
    · cases h
  | .rv a, X, S, hC, hS, l, k, h => by
    unfold chkE at h
    split at h
    · exact both1 (f_rv (h_of hC hS h ((sE a hC hS _ _ h).1 _ rfl)))
    · cases h
  | .srs a, X, S, hC, hS, l, k, h => by
    unfold chkE at h
    split at h
    · obtain ⟨h, h5⟩ := and2 h
      obtain ⟨h, h4⟩ := and2 h
      obtain ⟨h1, h2, h3⟩ := and3 h
      exact both1 (f_srs hC hS (of_decide_eq_true h1) (of_decide_eq_true h2) h3 h4 (h_of hC hS h5 ((sE a hC hS _ _ h5).1 _ rfl)) (chk_plain _ _ _ _ h5))
    · cases h
  | .tup es, X, S, hC, hS, l, k, h => by
    unfold chkE at h
    split at h
    · exact both1 (f_tup (sV es hC hS _ h))
    · cases h
  | .lst es, X, S, hC, hS, l, k, h => by
    unfold chkE at h
    split at h
    · exact both1 (f_lst (sV es hC hS _ h))
    · cases h
  | .fn f es, X, S, hC, hS, l, k, h => by
    unfold chkE at h
    split at h
    · obtain ⟨h, h4⟩ := and2 h
      obtain ⟨h1, h2, h3⟩ := and3 h
      exact both1 (f_fn hC hS (of_decide_eq_true h1) h2 (sL es hC hS _ h3 h4) h4)
    · cases h
  | .isi a t, X, S, hC, hS, l, k, h => by
    unfold chkE at h
    split at h
    · obtain ⟨h, h6⟩ := and2 h
      obtain ⟨h, h5⟩ := and2 h
      obtain ⟨h, h4⟩ := and2 h
      obtain ⟨h1, h2, h3⟩ := and3 h
      exact both1 (f_isi hC hS (of_decide_eq_true h1) h2 (h_of hC hS h3 ((sE a hC hS _ _ h3).1 _ rfl)) (chk_plain _ _ _ _ h3) (of_decide_eq_true h4) h5 h6)
    · cases h
  | .call f es, X, S, hC, hS, l, k, h => by
    unfold chkE at h
    split at h
    · obtain ⟨h, h5⟩ := and2 h
      obtain ⟨h, h4⟩ := and2 h
      obtain ⟨h1, h2, h3⟩ := and3 h
      refine both1 (f_call hC hS (of_decide_eq_true h1) h2 h3 (sV es hC hS _ h4) h5 fun z => ?_)
      rw [z] at h4
      exact chkL_nil h4
    · cases h
  | .act i f x es, X, S, hC, hS, l, k, h => by
    unfold chkE at h
    split at h
    · obtain ⟨h, h4⟩ := and2 h
      obtain ⟨h1, h2, h3⟩ := and3 h
      exact both1 (f_act hC hS h1 (of_decide_eq_true h2) (sV es hC hS _ h3) h4)
    · cases h
  | .lc own g it c e, X, S, hC, hS, l, k, h => by
    unfold chkE at h
    split at h
    · rename_i elt tg iter ifs as scope pos
      obtain ⟨h, h7⟩ := and2 h
      obtain ⟨h, h6⟩ := and2 h
      obtain ⟨h, h5⟩ := and2 h
      obtain ⟨h, h4⟩ := and2 h
      obtain ⟨h1, h2, h3⟩ := and3 h
      cases of_decide_eq_true h1
      have pi := sI it hC hS _ _ h2
      refine both1 (pe_mono (pe_lc hC.calm hC.nd pi (blkOk_by (own := own) (by rw [hS.sc, hC.N]; exact h3)) (fun s H A cl fp => sG (hC.blk s H scope _ fp) (hS.blk s H scope cl A fp) g _ h4) (fun s H A cl fp => ?_)
        (fun s H A cl fp => (sE e (hC.blk s H scope _ fp) (hS.blk s H scope cl A fp) _ _ h7).1 _ rfl) (fun x => chkI_folded it h2 X.env x)) fun σ H Q h => lcR (tgs_in h5) h)
      split at h6
      · split at h6
        · exact ts_yes
        · cases h6
      · exact pts_one ((sT c (hC.blk s H scope _ fp) (hS.blk s H scope cl A fp) _ _ h6).1 _ rfl)
      · cases h6
    · cases h
  | .lcl own i g c e, X, S, hC, hS, l, k, h => by
    unfold chkE at h
    split at h
    · rename_i elt tg x px ifs as scope pos
      obtain ⟨h, h7⟩ := and2 h
      obtain ⟨h, h6⟩ := and2 h
      obtain ⟨h, h5⟩ := and2 h
      obtain ⟨h, h4⟩ := and2 h
      obtain ⟨h1, h2, h3⟩ := and3 h
      cases of_decide_eq_true h1
      have pi : PI X tg (.Name x px) (iList X.K (tVar i)) := pi_list (pe_nm hC hS h2)
      refine both1 (pe_mono (pe_lc hC.calm hC.nd pi (blkOk_by (own := own) (by rw [hS.sc, hC.N]; exact h3)) (fun s H A cl fp => sG (hC.blk s H scope _ fp) (hS.blk s H scope cl A fp) g _ h4) (fun s H A cl fp => ?_)
        (fun s H A cl fp => (sE e (hC.blk s H scope _ fp) (hS.blk s H scope cl A fp) _ _ h7).1 _ rfl) (fun x => rfl)) fun σ H Q h => lclR (tgs_in h5) h)
      split at h6
      · split at h6
        · exact ts_yes
        · cases h6
      · exact pts_one ((sT c (hC.blk s H scope _ fp) (hS.blk s H scope cl A fp) _ _ h6).1 _ rfl)
      · cases h6
    · cases h
  | .lcd own i g c e, X, S, hC, hS, l, k, h => by
    unfold chkE at h
    split at h
    · rename_i elt tg x px ifs as scope pos
      obtain ⟨h, h7⟩ := and2 h
      obtain ⟨h, h6⟩ := and2 h
      obtain ⟨h, h5⟩ := and2 h
      obtain ⟨h, h4⟩ := and2 h
      obtain ⟨h1, h2, h3⟩ := and3 h
      cases of_decide_eq_true h1
      have pi : PI X tg (.Name x px) (iKeys (tVar i)) := pi_keys (pe_nm hC hS h2)
      have hb := pe_lc (te := rE X.K Γ C.cons e) (tt := rT X.K Γ C.cons c) (g := rG X.K g) (ifs := ifs) (elt := elt) (pos := pos) hC.calm hC.nd pi (blkOk_by (own := own) (by rw [hS.sc, hC.N]; exact h3)) (fun s H A cl fp => sG (hC.blk s H scope _ fp) (hS.blk s H scope cl A fp) g _ h4) (fun s H A cl fp => by
          split at h6
          · split at h6
            · exact ts_yes
            · cases h6
          · exact pts_one ((sT c (hC.blk s H scope _ fp) (hS.blk s H scope cl A fp) _ _ h6).1 _ rfl)
          · cases h6)
        (fun s H A cl fp => (sE e (hC.blk s H scope _ fp) (hS.blk s H scope cl A fp) _ _ h7).1 _ rfl) (fun x => rfl)
      exact both1 (pe_mono (pe_or hb (pe_lock hb)) fun σ H Q h => lcdR (tgs_in h5) h)
    · cases h
  | .dcm own g it c ke e, X, S, hC, hS, l, k, h => by
    unfold chkE at h
    split at h
    · rename_i key elt tg iter ifs as scope pos
      obtain ⟨h, h7⟩ := and2 h
      obtain ⟨h, h8⟩ := and2 h
      obtain ⟨h, h6⟩ := and2 h
      obtain ⟨h, h5⟩ := and2 h
      obtain ⟨h, h4⟩ := and2 h
      obtain ⟨h1, h2, h3⟩ := and3 h
      cases of_decide_eq_true h1
      have pi := sI it hC hS _ _ h2
      refine both1 (pe_mono (pe_dc hC.calm hC.nd pi (blkOk_by (own := own) (by rw [hS.sc, hC.N]; exact h3)) (fun s H A cl fp => sG (hC.blk s H scope _ fp) (hS.blk s H scope cl A fp) g _ h4) (fun s H A cl fp => ?_)
        (fun s H A cl fp => (sE ke (hC.blk s H scope _ fp) (hS.blk s H scope cl A fp) _ _ h8).1 _ rfl) (fun s H A cl fp => (sE e (hC.blk s H scope _ fp) (hS.blk s H scope cl A fp) _ _ h7).1 _ rfl) (fun x => chkI_folded it h2 X.env x)) fun σ H Q h => dcR (tgs_in h5) h)
      split at h6
      · split at h6
        · exact ts_yes
        · cases h6
      · exact pts_one ((sT c (hC.blk s H scope _ fp) (hS.blk s H scope cl A fp) _ _ h6).1 _ rfl)
      · cases h6
    · cases h
  | .lrg a, X, S, hC, hS, l, k, h => by
    unfold chkE at h
    split at h
    · obtain ⟨h, h5⟩ := and2 h
      obtain ⟨h, h4⟩ := and2 h
      obtain ⟨h1, h2, h3⟩ := and3 h
      exact both1 (f_lrg hC hS (of_decide_eq_true h1) h2 (of_decide_eq_true h3) h4 (h_of hC hS h5 ((sE a hC hS _ _ h5).1 _ rfl)) (chk_plain _ _ _ _ h5))
    · cases h
  | .lrg2 a b, X, S, hC, hS, l, k, h => by
    unfold chkE at h
    split at h
    · obtain ⟨h, h6⟩ := and2 h
      obtain ⟨h, h5⟩ := and2 h
      obtain ⟨h, h4⟩ := and2 h
      obtain ⟨h1, h2, h3⟩ := and3 h
      exact both1 (f_lrg2 hC hS (of_decide_eq_true h1) h2 (of_decide_eq_true h3) h4 (h_of hC hS h5 ((sE a hC hS _ _ h5).1 _ rfl)) (chk_plain _ _ _ _ h5) (h_of hC hS h6 ((sE b hC hS _ _ h6).1 _ rfl)) (chk_plain _ _ _ _ h6))
    · cases h
  | .mt m i es, X, S, hC, hS, l, k, h => by
    unfold chkE at h
    split at h
    · obtain ⟨h, h6⟩ := and2 h
      obtain ⟨h, h5⟩ := and2 h
      obtain ⟨h, h4⟩ := and2 h
      obtain ⟨h1, h2, h3⟩ := and3 h
      refine both1 (f_mt hC hS h1 (of_decide_eq_true h2) h3 (sV es hC hS _ h4) h5 (of_decide_eq_true h6) fun z => ?_)
      rw [z] at h4
      exact chkL_nil h4
    · cases h
  | .dic es, X, S, hC, hS, l, k, h => by
    unfold chkE at h
    split at h
    · rename_i ks vs pos
      split at h
      · rename_i zs hz
        obtain ⟨h, h4⟩ := and2 h
        obtain ⟨h1, h2, h3⟩ := and3 h
        by_cases h0 : ks = []
        · subst h0
          cases vs with
          | nil =>
            cases hz
            cases chkL_nil h2
            exact both1 f_dic0
          | cons _ _ => cases hz
        · exact both1 (f_dicN hz (of_decide_eq_true h4) h2 h3 h0 (kvE_len hz) (kvE_all hz) (sP es hC hS ks vs zs pos hz h1 h2))
      · cases h
    · cases h
  | .dget i c d, X, S, hC, hS, l, k, h => by
    unfold chkE at h
    split at h
    · obtain ⟨h, h5⟩ := and2 h
      obtain ⟨h, h4⟩ := and2 h
      obtain ⟨h1, h2, h3⟩ := and3 h
      cases of_decide_eq_true h2
      exact both1 (f_dget hC hS h1 h3 (chk_plain _ _ _ _ h4) (chk_plain _ _ _ _ h5) (h_of hC hS h4 ((sE c hC hS _ _ h4).1 _ rfl)) ((sE d hC hS _ _ h5).1 _ rfl))
    · cases h
  | .dix i c, X, S, hC, hS, l, k, h => by
    unfold chkE at h
    split at h
    · obtain ⟨h1, h2⟩ := and2 h
      exact both1 (f_dix hC hS h1 h2 (h_of hC hS h2 ((sE c hC hS _ _ h2).1 _ rfl)))
    · cases h
  | .din m i c, X, S, hC, hS, l, k, h => by
    unfold chkE at h
    split at h
    · obtain ⟨h1, h2, h3⟩ := and3 h
      cases of_decide_eq_true h1
      exact both1 (f_din hC hS h2 (h_of hC hS h3 ((sE c hC hS _ _ h3).1 _ rfl)))
    · cases h
  | .bits a, X, S, hC, hS, l, k, h => by
    unfold chkE at h
    split at h
    · obtain ⟨h1, h2, h3⟩ := and3 h
      cases of_decide_eq_true h1
      exact both1 (f_bits h2 (h_of hC hS h3 ((sE a hC hS _ _ h3).1 _ rfl)))
    · cases h
theorem sP {C : Cfg} {Γ : Tab} {n : Nat} : ∀ (es : IL) {X : Cx} {S : Sc} (hC : COk X C Γ n) (hS : SOk X S) (ks : List (Option Expr)) (vs zs : List Expr) (pos : Pos), kvE ks vs = some zs → consL es = true → chkL C S es zs = true → PPs X pos ks vs (trsOf X.K Γ C.cons es)
  | .nil, X, S, hC, hS, ks, vs, zs, pos, hz, h0, h => by
    cases zs with
    | cons _ _ => exact absurd h Bool.false_ne_true
    | nil =>
      obtain ⟨rfl, rfl⟩ := kvE_nil hz
      exact pps_nil
  | .star a r, X, S, hC, hS, ks, vs, zs, pos, hz, h0, h => absurd h0 Bool.false_ne_true
  | .io i r, X, S, hC, hS, ks, vs, zs, pos, hz, h0, h => absurd h0 Bool.false_ne_true
  | .cons a (.star b r), X, S, hC, hS, ks, vs, zs, pos, hz, h0, h => absurd h0 Bool.false_ne_true
  | .cons a (.io i r), X, S, hC, hS, ks, vs, zs, pos, hz, h0, h => absurd h0 Bool.false_ne_true
  | .cons a .nil, X, S, hC, hS, ks, vs, zs, pos, hz, h0, h => by
    cases zs with
    | nil => exact absurd h Bool.false_ne_true
    | cons z zs =>
      obtain ⟨k, v, ks', vs', zs', rfl, rfl, e, hz'⟩ := kvE_cons hz
      cases e
      obtain ⟨_, h2⟩ := and2 h
      exact absurd h2 Bool.false_ne_true
  | .cons a (.cons b r), X, S, hC, hS, ks, vs, zs, pos, hz, h0, h => by
    cases zs with
    | nil => exact absurd h Bool.false_ne_true
    | cons z zs =>
      obtain ⟨k, v, ks', vs', zs', rfl, rfl, e, hz'⟩ := kvE_cons hz
      cases e
      obtain ⟨h1, h2⟩ := and2 h
      obtain ⟨h3, h4⟩ := and2 h2
      exact pps_cons (d_of ((sE a hC hS _ _ h1).1 _ rfl)) (d_of ((sE b hC hS _ _ h3).1 _ rfl)) (sP r hC hS ks' vs' zs' pos hz' h0 h4)
theorem sT {C : Cfg} {Γ : Tab} {n : Nat} : ∀ (t : IT) {X : Cx} {S : Sc} (hC : COk X C Γ n) (hS : SOk X S) (l : List Expr) (k : Option BoolOp), chkT C S t l k = true → BothT X (rT X.K Γ C.cons t) l k
  | .yes, X, S, hC, hS, l, k, h => absurd h Bool.false_ne_true
  | .e a, X, S, hC, hS, l, k, h => by
    unfold chkT at h
    split at h
    · rename_i z
      obtain ⟨h1, h2⟩ := and2 h
      have pz := (sE a hC hS _ _ h1).1 _ rfl
      cases a with
      | cmp op a1 b1 =>
        unfold chkE at h1
        split at h1
        · rename_i e
          cases e
          obtain ⟨g1, g2, g3⟩ := and3 h1
          cases of_decide_eq_true g1
          exact bothT1 (t_cmp hC (h_of hC hS g2 ((sE a1 hC hS _ _ g2).1 _ rfl)) (h_of hC hS g3 ((sE b1 hC hS _ _ g3).1 _ rfl)) (chk_plain _ _ _ _ g3))
        · cases h1
      | ch op op' a1 b1 c1 =>
        unfold chkE at h1
        split at h1
        · rename_i e
          cases e
          obtain ⟨h1, h5⟩ := and2 h1
          obtain ⟨h1, h4⟩ := and2 h1
          obtain ⟨g1, g2, g3⟩ := and3 h1
          cases of_decide_eq_true g1
          cases of_decide_eq_true g2
          exact bothT1 (t_ch hC (h_of hC hS g3 ((sE a1 hC hS _ _ g3).1 _ rfl)) (h_of hC hS h4 ((sE b1 hC hS _ _ h4).1 _ rfl)) (h_of hC hS h5 ((sE c1 hC hS _ _ h5).1 _ rfl)) (chk_plain _ _ _ _ h5))
        · cases h1
      | ch3 op op' op'' a1 b1 c1 d1 =>
        unfold chkE at h1
        split at h1
        · rename_i e
          cases e
          obtain ⟨h1, h7⟩ := and2 h1
          obtain ⟨h1, h6⟩ := and2 h1
          obtain ⟨h1, h5⟩ := and2 h1
          obtain ⟨h1, h4⟩ := and2 h1
          obtain ⟨g1, g2, g3⟩ := and3 h1
          cases of_decide_eq_true g1
          cases of_decide_eq_true g2
          cases of_decide_eq_true g3
          exact bothT1 (t_ch3 hC (h_of hC hS h4 ((sE a1 hC hS _ _ h4).1 _ rfl)) (h_of hC hS h5 ((sE b1 hC hS _ _ h5).1 _ rfl)) (h_of hC hS h6 ((sE c1 hC hS _ _ h6).1 _ rfl)) (h_of hC hS h7 ((sE d1 hC hS _ _ h7).1 _ rfl)) (chk_plain _ _ _ _ h7))
        · cases h1
      | din m i c1 =>
        unfold chkE at h1
        split at h1
        · rename_i e
          cases e
          obtain ⟨g1, g2, g3⟩ := and3 h1
          cases of_decide_eq_true g1
          exact bothT1 (t_din hC hS g2 (h_of hC hS g3 ((sE c1 hC hS _ _ g3).1 _ rfl)))
        · cases h1
      | _ =>
        rw [Bool.or_eq_true] at h2
        rcases h2 with h2 | h2
        · exact bothT1 (t_e (h_of hC hS h1 pz) h2)
        · exact absurd h2 Bool.false_ne_true
    · cases h
  | .not a, X, S, hC, hS, l, k, h => by
    unfold chkT at h
    split at h
    · exact bothT1 (t_not ((sT a hC hS _ _ h).1 _ rfl))
    · cases h
  | .and a b, X, S, hC, hS, l, k, h => by
    unfold chkT at h
    split at h
    · obtain ⟨h2, h3⟩ := and2 h
      exact bothT1 (t_and ((sT a hC hS _ _ h2).1 _ rfl) ((sT b hC hS _ _ h3).2 _ _ rfl (by simp))).pt
    · obtain ⟨h2, h3⟩ := and2 h
      refine ⟨fun z e => by simp at e, fun op pos e _ => ?_⟩
      cases e
      exact t_and ((sT a hC hS _ _ h2).1 _ rfl) ((sT b hC hS _ _ h3).2 _ _ rfl (by simp))
    · cases h
  | .or a b, X, S, hC, hS, l, k, h => by
    unfold chkT at h
    split at h
    · obtain ⟨h2, h3⟩ := and2 h
      exact bothT1 (t_or ((sT a hC hS _ _ h2).1 _ rfl) ((sT b hC hS _ _ h3).2 _ _ rfl (by simp))).pt
    · obtain ⟨h2, h3⟩ := and2 h
      refine ⟨fun z e => by simp at e, fun op pos e _ => ?_⟩
      cases e
      exact t_or ((sT a hC hS _ _ h2).1 _ rfl) ((sT b hC hS _ _ h3).2 _ _ rfl (by simp))
    · cases h
  | .ife _ _ _, X, S, hC, hS, l, k, h => absurd h Bool.false_ne_true
theorem sL {C : Cfg} {Γ : Tab} {n : Nat} : ∀ (es : IL) {X : Cx} {S : Sc} (hC : COk X C Γ n) (hS : SOk X S) (l : List Expr), chkL C S es l = true → l.all plainA = true → PA X l (rL X.K Γ C.cons es)
  | .nil, X, S, hC, hS, l, h, hp => by
    cases l with
    | nil => exact l_nil
    | cons _ _ => exact absurd h Bool.false_ne_true
  | .cons a r, X, S, hC, hS, l, h, hp => by
    cases l with
    | nil => exact absurd h Bool.false_ne_true
    | cons z zs =>
      obtain ⟨h1, h2⟩ := and2 h
      rw [List.all_cons] at hp
      exact l_cons (h_of hC hS h1 ((sE a hC hS _ _ h1).1 _ rfl)) (sL r hC hS _ h2 (and2 hp).2) (and2 hp).1
  | .star a r, X, S, hC, hS, l, h, hp => ⟨fun pos pins s σ H Q I ⟨G, F, env, hs, env', R, e, k⟩ => by cases e⟩
  | .io i r, X, S, hC, hS, l, h, hp => ⟨fun pos pins s σ H Q I ⟨G, F, env, hs, env', R, e, k⟩ => by cases e⟩
theorem sV {C : Cfg} {Γ : Tab} {n : Nat} : ∀ (es : IL) {X : Cx} {S : Sc} (hC : COk X C Γ n) (hS : SOk X S) (l : List Expr), chkL C S es l = true → PA X l (rV X.K Γ C.cons es)
  | .nil, X, S, hC, hS, l, h => by
    cases l with
    | nil => exact v_nil
    | cons _ _ => exact absurd h Bool.false_ne_true
  | .cons a r, X, S, hC, hS, l, h => by
    cases l with
    | nil => exact absurd h Bool.false_ne_true
    | cons z zs =>
      obtain ⟨h1, h2⟩ := and2 h
      exact v_cons ((sE a hC hS _ _ h1).1 _ rfl) (sV r hC hS _ h2) (chk_plain _ _ _ _ h1)
  | .star a r, X, S, hC, hS, l, h => by
    unfold chkL at h
    split at h
    · obtain ⟨h1, h2⟩ := and2 h
      exact v_star ((sE a hC hS _ _ h1).1 _ rfl) (sV r hC hS _ h2)
    · cases h
  | .io i r, X, S, hC, hS, l, h => by
    unfold chkL at h
    split at h
    · obtain ⟨h1, h2⟩ := and2 h
      exact v_io hC hS h1 (sV r hC hS _ h2)
    · cases h
theorem sO {C : Cfg} {Γ : Tab} {n : Nat} : ∀ (o : IO) {X : Cx} {S : Sc} (hC : COk X C Γ n) (hS : SOk X S) (l : Option Expr), chkO C S o l = true → PO X l (rO X.K Γ C.cons o)
  | .no, X, S, hC, hS, l, h => by
    cases l with
    | none => exact o_no
    | some _ => exact absurd h Bool.false_ne_true
  | .so a, X, S, hC, hS, l, h => by
    cases l with
    | none => exact absurd h Bool.false_ne_true
    | some z => exact o_so (h_of hC hS h ((sE a hC hS _ _ h).1 _ rfl))
theorem sI {C : Cfg} {Γ : Tab} {n : Nat} : ∀ (it : II) {X : Cx} {S : Sc} (hC : COk X C Γ n) (hS : SOk X S) (tg z : Expr), chkI C S it tg z = true → PI X tg z (rI X.K Γ C.cons it)
  | .e a, X, S, hC, hS, tg, z, h => i_e ((sE a hC hS _ _ h).1 _ rfl)
  | .r1 a, X, S, hC, hS, tg, z, h => by
    unfold chkI at h
    split at h
    · obtain ⟨h1, h2, h3⟩ := and3 h
      exact i_r1 hC hS (of_decide_eq_true h1) h2 (h_of hC hS h3 ((sE a hC hS _ _ h3).1 _ rfl)) (chk_plain _ _ _ _ h3)
    · cases h
  | .r2 a b, X, S, hC, hS, tg, z, h => by
    unfold chkI at h
    split at h
    · obtain ⟨h, h4⟩ := and2 h
      obtain ⟨h1, h2, h3⟩ := and3 h
      exact i_r2 hC hS (of_decide_eq_true h1) h2 (h_of hC hS h3 ((sE a hC hS _ _ h3).1 _ rfl)) (chk_plain _ _ _ _ h3) (h_of hC hS h4 ((sE b hC hS _ _ h4).1 _ rfl)) (chk_plain _ _ _ _ h4)
    · cases h
  | .rd a b, X, S, hC, hS, tg, z, h => by
    unfold chkI at h
    split at h
    · obtain ⟨h, h4⟩ := and2 h
      obtain ⟨h1, h2, h3⟩ := and3 h
      exact i_rd hC hS (of_decide_eq_true h1) h2 (h_of hC hS h3 ((sE a hC hS _ _ h3).1 _ rfl)) (chk_plain _ _ _ _ h3) (h_of hC hS h4 ((sE b hC hS _ _ h4).1 _ rfl)) (chk_plain _ _ _ _ h4)
    · cases h
  | .zip a b, X, S, hC, hS, tg, z, h => by
    unfold chkI at h
    split at h
    · obtain ⟨h, h5⟩ := and2 h
      obtain ⟨h, h4⟩ := and2 h
      obtain ⟨h1, h2, h3⟩ := and3 h
      exact i_zip hC hS h1 (of_decide_eq_true h2) h3 ((sE a hC hS _ _ h4).1 _ rfl) (chk_plain _ _ _ _ h4) ((sE b hC hS _ _ h5).1 _ rfl) (chk_plain _ _ _ _ h5)
    · cases h
  | .zip3 a b c, X, S, hC, hS, tg, z, h => by
    unfold chkI at h
    split at h
    · obtain ⟨h, h6⟩ := and2 h
      obtain ⟨h, h5⟩ := and2 h
      obtain ⟨h, h4⟩ := and2 h
      obtain ⟨h1, h2, h3⟩ := and3 h
      exact i_zip3 hC hS h1 (of_decide_eq_true h2) h3 ((sE a hC hS _ _ h4).1 _ rfl) (chk_plain _ _ _ _ h4) ((sE b hC hS _ _ h5).1 _ rfl) (chk_plain _ _ _ _ h5) ((sE c hC hS _ _ h6).1 _ rfl) (chk_plain _ _ _ _ h6)
    · cases h
  | .enum a, X, S, hC, hS, tg, z, h => by
    unfold chkI at h
    split at h
    · obtain ⟨h, h4⟩ := and2 h
      obtain ⟨h1, h2, h3⟩ := and3 h
      exact i_enum hC hS h1 (of_decide_eq_true h2) h3 ((sE a hC hS _ _ h4).1 _ rfl) (chk_plain _ _ _ _ h4)
    · cases h
end
end PF

/-! PF11: statements. -/
namespace PF
open PySem PySem.Spec PyProof.Rows L2
/-! ### the check -/
def notComp : Expr → Bool
  | .ListComp .. => false
  | .SetComp .. => false
  | .DictComp .. => false
  | _ => true
def isTup : Expr → Bool
  | .Tuple vs _ _ => !(vs.all (foldedForSure 8))
  | _ => false
def isDC : Expr → Bool
  | .DictComp .. => true
  | _ => false
/-- some of these names is not simply local -/
def cellT (sc : Scope) (es : List Expr) : Bool := es.any fun e => match e with
  | .Name x _ => !(sc.names.lookup x == some .local)
  | _ => false

def chkN (C : Cfg) (S : Sc) : List Nat → List Expr → Bool
  | [], l => l.isEmpty
  | i :: r, l => match l with
    | .Name x _ :: zs => tgS C S i x && chkN C S r zs
    | _ => false
mutual
def chkS (C : Cfg) (S : Sc) : IS → Stmt → Bool
  | .set i e, st => match st with
    | .Assign [.Name x _] v _ => tgS C S i x && chkE C S e [v] none && !isDC v
    | _ => false
  | .tgt gs e, st => match st with
    | .Assign [.Tuple es _ _] v _ => chkGs C S gs es && chkE C S e [v] none && (!isTup v || (decide (4 ≤ es.length) || cellT S.sc es))
    | _ => false
  | .par2 i j a b, st => match st with
    | .Assign [.Tuple [.Name x px, .Name y py] _ _] (.Tuple [u, v] _ _) _ => decide (C.N[i]? = some x) && decide (C.N[j]? = some y) && decide (S.sc.names.lookup x = some .local) && decide (S.sc.names.lookup y = some .local) && decide (px.line = py.line) &&
        decide (x ≠ y) && !([u, v].all (foldedForSure 8)) && !([u, v].all (constantsAlone 8)) && decide (S.sc.kind = .function) && chkE C S a [u] none && chkE C S b [v] none
    | _ => false
  | .par3 i j l a b c, st => match st with
    | .Assign [.Tuple [.Name x px, .Name y py, .Name z pz] _ _] (.Tuple [u, v, w] _ _) _ => decide (C.N[i]? = some x) && decide (C.N[j]? = some y) && decide (C.N[l]? = some z) && decide (S.sc.names.lookup x = some .local) && decide (S.sc.names.lookup y = some .local) &&
        decide (S.sc.names.lookup z = some .local) && decide (px.line = py.line) && decide (px.line = pz.line) && decide (x ≠ y) && decide (x ≠ z) && decide (y ≠ z) && !([u, v, w].all (foldedForSure 8)) && !([u, v, w].all (constantsAlone 8)) && decide (S.sc.kind = .function) &&
        chkE C S a [u] none && chkE C S b [v] none && chkE C S c [w] none
    | _ => false
  | .parn is es, st => match st with
    | .Assign [.Tuple ts _ _] (.Tuple vs _ _) _ => chkN C S is ts && chkL C S es vs && decide (vs.length ≤ 1000) && (decide (4 ≤ ts.length) || cellT S.sc ts)
    | _ => false
  | .six i k e, st => match st with
    | .Assign [.Subscript (.Name x _) kx _] v _ => nmS C S i x && chkE C S k [kx] none && chkE C S e [v] none
    | _ => false
  | .aug i op e, st => match st with
    | .AugAssign (.Name x _) o v _ => tgS C S i x && decide (op = o) && chkE C S e [v] none
    | _ => false
  | .aix i k op e, st => match st with
    | .AugAssign (.Subscript (.Name x _) kx _) o v _ => nmS C S i x && chkE C S k [kx] none && decide (op = o) && chkE C S e [v] none
    | _ => false
  | .ret e, st => match st with
    | .Return (some v) _ => chkE C S e [v] none
    | _ => false
  | .retx i, st => match st with
    | .Return (some (.Name x _)) _ => nmS C S i x
    | _ => false
  | .retn, st => match st with
    | .Return none _ => true
    | _ => false
  | .ex e, st => match st with
    | .Expr v _ => chkE C S e [v] none && notComp v
    | _ => false
  | .cond t a b, st => match st with
    | .If z x y _ => chkT C S t [z] none && chkB C S a x && chkB C S b y
    | _ => false
  | .for g it b _, st => match st with
    | .For tg iter body [] _ => chkI C S it tg iter && chkG C S g tg && chkB C S b body
    | _ => false
  | .wh t b _, st => match st with
    | .While z body [] _ => chkT C S t [z] none && chkB C S b body
    | _ => false
  | .brk, st => match st with
    | .Break _ => true
    | _ => false
  | .cnt, st => match st with
    | .Continue _ => true
    | _ => false
  | .pass, st => match st with
    | .Pass _ => true
    | _ => false
  | .dput i k e, st => match st with
    | .Assign [.Subscript (.Name x _) kx _] v _ => nmS C S i x && chkE C S k [kx] none && chkE C S e [v] none
    | _ => false
  | .nev, _ => true
def chkB (C : Cfg) (S : Sc) : IB → List Stmt → Bool
  | .nil, l => l.isEmpty
  | .cons s r, l => match l with
    | z :: zs => chkS C S s z && chkB C S r zs
    | [] => false
end
/-! ### two and three names at once -/
theorem sw2 {x y : Str} {px py p p2 : Pos} {k k2 : Nat} {a b : Expr} {env : Env} (hk : env.scope.kind = .function) (hx : env.scope.names.lookup x = some .local) (hy : env.scope.names.lookup y = some .local) (hl : px.line = py.line) (hxy : x ≠ y)
   (sa : notStar a = true) (sb : notStar b = true) (hf : ([a, b].all (foldedForSure 8)) = false) (hc : ([a, b].all (constantsAlone 8)) = false) :
   swappedStores [.Tuple [.Name x px, .Name y py] k p] (.Tuple [a, b] k2 p2) env = pure (some [x, y]) := by
  have kx : env.kindOf x = some .local := hx
  have ky : env.kindOf y = some .local := hy
  have hb : env.blockKind = .function := by unfold Env.blockKind; rw [hk]; rfl
  have key : ∀ f : Expr → Bool, (∀ z, notStar z = true → f z = false) → ([a, b].any f) = false := fun f h => by simp [h a sa, h b sb]
  unfold swappedStores
  simp only [hb, hf, hc, kx, ky, hl, Expr.pos, List.head?_cons, Option.map_some, Option.getD_some, List.filterMap_cons, List.filterMap_nil, List.length_cons, List.length_nil, beq_self_eq_true, Bool.and_self, ite_true, Bool.or_true, Bool.true_or, Bool.not_true, Bool.false_or, bne_self_eq_false, ite_false, Bool.false_eq_true]
  have hd : [x, y].eraseDups = [x, y] := by
    simp [List.eraseDups_cons, hxy, Ne.symm hxy]
  rw [hd, if_neg (by rw [key _ fun z hz => by cases z <;> first | exact absurd hz Bool.false_ne_true | rfl]; exact Bool.false_ne_true)]
  rfl
theorem sw3 {x y z : Str} {px py pz p p2 : Pos} {k k2 : Nat} {a b c : Expr} {env : Env} (hk : env.scope.kind = .function) (hx : env.scope.names.lookup x = some .local) (hy : env.scope.names.lookup y = some .local) (hz : env.scope.names.lookup z = some .local) (hl : px.line = py.line) (hl2 : px.line = pz.line)
   (hxy : x ≠ y) (hxz : x ≠ z) (hyz : y ≠ z) (sa : notStar a = true) (sb : notStar b = true) (sc : notStar c = true) (hf : ([a, b, c].all (foldedForSure 8)) = false) (hc : ([a, b, c].all (constantsAlone 8)) = false) :
   swappedStores [.Tuple [.Name x px, .Name y py, .Name z pz] k p] (.Tuple [a, b, c] k2 p2) env = pure (some [x, y, z]) := by
  have kx : env.kindOf x = some .local := hx
  have ky : env.kindOf y = some .local := hy
  have kz : env.kindOf z = some .local := hz
  have hb : env.blockKind = .function := by unfold Env.blockKind; rw [hk]; rfl
  have key : ∀ f : Expr → Bool, (∀ z, notStar z = true → f z = false) → ([a, b, c].any f) = false := fun f h => by simp [h a sa, h b sb, h c sc]
  have l1 : py.line = pz.line := hl.symm.trans hl2
  unfold swappedStores
  simp only [hb, hf, hc, kx, ky, kz, hl, l1, Expr.pos, List.head?_cons, Option.map_some, Option.getD_some, List.filterMap_cons, List.filterMap_nil, List.length_cons, List.length_nil, beq_self_eq_true, Bool.and_self, ite_true, Bool.or_true, Bool.true_or, Bool.not_true, Bool.false_or, bne_self_eq_false, ite_false, Bool.false_eq_true]
  have hd : [x, y, z].eraseDups = [x, y, z] := by
    simp [List.eraseDups_cons, hxy, Ne.symm hxy, hxz, Ne.symm hxz, hyz, Ne.symm hyz]
  rw [hd, if_neg (by rw [key _ fun z hz => by cases z <;> first | exact absurd hz Bool.false_ne_true | rfl]; exact Bool.false_ne_true)]
  rfl
theorem sw_comp {elt : Expr} {gs : List Comprehension} {scope : Scope} {pos py : Pos} {y : Str} {l : Nat} {env : Env} : swapsWith (.ListComp elt gs scope pos) (some (.Name y py)) l env =
    pure (env.blockKind == .function && env.kindOf y == some .local && py.line == pos.line && !(scope.names.any fun (n, k) => n == y && (k == .local || k == .cell))) := by
  unfold swapsWith
  rfl
theorem plain_notStar {z : Expr} (h : plainA z = true) : notStar z = true := by
  cases z <;> first | exact absurd h Bool.false_ne_true | rfl
/-! ### the ends of statements -/
def RT (K : PySem.W.Frag) (G : Gh) (H F : Hp) (v : V) : Sl → Prop
  | .v d => Dq K F v d
  | .o ds => ∃ p vs, v = .ref p ∧ G.H0 p = none ∧ F p = none ∧ H p = some (.lst vs) ∧ DqAll K F vs ds
  | .b _ => False
  | .w ds => ∃ p vs, v = .ref p ∧ G.H0 p = none ∧ F p = none ∧ H p = some (.dK vs) ∧ DqKV K F vs ds
def EndOk (K : PySem.W.Frag) (G : Gh) (F : Hp) (D : Ends) : Fl → Prop
  | .nx e => ∀ σ' H' F', Same F F' → Rel K G σ' H' F' e → D.nx σ' H'
  | .bk e => ∀ σ' H' F', Same F F' → Rel K G σ' H' F' e → D.bk σ' H'
  | .ct e => ∀ σ' H' F', Same F F' → Rel K G σ' H' F' e → D.ct σ' H'
  | .rt r e => ∀ v σ' H' F', Same F F' → Rel K G σ' H' F' e → RT K G H' F' v r → D.rt v H'
theorem EndOk.mono {K : PySem.W.Frag} {G : Gh} {F F' : Hp} {D : Ends} {fl : Fl} (m : Same F F') (h : EndOk K G F D fl) : EndOk K G F' D fl := by
  cases fl with
  | nx e => exact fun σ' H' F2 m2 R => h σ' H' F2 (m.trans m2) R
  | bk e => exact fun σ' H' F2 m2 R => h σ' H' F2 (m.trans m2) R
  | ct e => exact fun σ' H' F2 m2 R => h σ' H' F2 (m.trans m2) R
  | rt r e => exact fun v σ' H' F2 m2 R q => h v σ' H' F2 (m.trans m2) R q
section
variable (K : PySem.W.Frag) (Γ : Tab) (C : List (Str × PyData)) (FU : Nat)
def rS (st : IS) : TS := fun D σ H => ∃ G F env fl, Rel K G σ H F env ∧ runS Γ C FU st env = some fl ∧ EndOk K G F D fl
def rB (st : IB) : TS := fun D σ H => ∃ G F env fl, Rel K G σ H F env ∧ runB Γ C FU st env = some fl ∧ EndOk K G F D fl
end
section
variable {X : Cx} {C : Cfg} {S : Sc} {Γ : Tab} {n FU : Nat}
theorem tg_of (hC : COk X C Γ n) (hS : SOk X S) {i : Nat} {x : Str} (h : tgS C S i x = true) : X.N[i]? = some x ∧ L2.Loc X.env.scope x ∧ (X.fn x = true ∨ X.env.scope.names.lookup x = some .local) := by
  unfold tgS at h
  obtain ⟨h1, h2⟩ := and2 h
  obtain ⟨h3, h4⟩ := loc_of hS h2
  exact ⟨by rw [hC.N]; exact of_decide_eq_true h1, h3, h4⟩
/-- a name takes a result -/
theorem setR {K : PySem.W.Frag} {G : Gh} {σ : L2.St} {H F H' F' : Hp} {env env' env2 : En} {i : Nat} {v : V} {r : Sl} (R0 : Rel K G σ H F env) (R : Rel K G σ H' F' env') (E : Ext K σ env H F H' F' env') (q : RV K H H' F' v r) (e : env'.put i r = some env2) :
    Rel K G (σ.set i (some v)) H' F' env2 := by
  cases r with
  | v d => exact R.setv e q
  | b ds => exact q.elim
  | o ds =>
    obtain ⟨p, vs, rfl, h1, h2, h3, h4⟩ := q
    refine R.seto e ?_ h2 h3 h4 fun z => (R0.ownAt (E.own p z)).1 h1
    cases z : G.H0 p with
    | none => rfl
    | some o => exact absurd h1 (R0.live p (by rw [z]; simp))
  | w ds =>
    obtain ⟨p, vs, rfl, h1, h2, h3, h4⟩ := q
    refine R.setm e ?_ h2 h3 h4 fun z => (R0.ownAt (E.own p z)).1 h1
    cases z : G.H0 p with
    | none => rfl
    | some o => exact absurd h1 (R0.live p (by rw [z]; simp))
theorem g_setR {i : Nat} {e : IE} {D : Ends} {σ : L2.St} {H : Hp} (h : rS X.K Γ C.cons FU (.set i e) D σ H) : tAsg (rE X.K Γ C.cons e) (gName i) D σ H := by
  obtain ⟨G, F, env, fl, R, ev, k⟩ := h
  obtain ⟨p, e1, ev⟩ := obind ev
  obtain ⟨e2, e3, ev⟩ := obind ev
  cases ev
  exact ⟨G, F, env, p.1, p.2, R, e1, fun v H1 F1 R1 E1 q1 => k _ _ _ E1.mono (setR R R1 E1 q1 e3)⟩
theorem ps_or {e : Stmt} {t u : TS} (h : PS X e t) (h2 : PS X e u) : PS X e (fun D σ H => t D σ H ∨ u D σ H) := ⟨fun pins s σ H D I q => by
  rcases q with q | q
  · exact h.run pins s σ H D I q
  · exact h2.run pins s σ H D I q⟩
theorem g_set (hC : COk X C Γ n) (hS : SOk X S) {i : Nat} {e : IE} {x : Str} {px pos : Pos} {v : Expr} (ht : tgS C S i x = true) (hv : chkE C S e [v] none = true) (hd : isDC v = false) : PS X (.Assign [.Name x px] v pos) (rS X.K Γ C.cons FU (.set i e)) := by
  obtain ⟨t1, t2, t3⟩ := tg_of hC hS ht
  have pv := (sE e hC hS _ _ hv).1 _ rfl
  have plain : swapsWith v (some (.Name x px)) pos.line X.env = pure false → PS X (.Assign [.Name x px] v pos) (rS X.K Γ C.cons FU (.set i e)) := fun hs => ps_mono (ps_set hC.nd t1 t2 pv hs t3) fun D σ H h => g_setR h
  cases v with
  | ListComp elt gs scope p =>
    rw [sw_comp] at plain
    cases hb : (X.env.blockKind == .function && X.env.kindOf x == some .local && px.line == p.line && !(scope.names.any fun (n, k) => n == x && (k == .local || k == .cell))) with
    | false => exact plain (by rw [hb])
    | true =>
      have hsw : swapsWith (.ListComp elt gs scope p) (some (.Name x px)) pos.line X.env = pure true := by rw [sw_comp, hb]
      obtain ⟨hb, _⟩ := and2 hb
      obtain ⟨_, b2, _⟩ := and3 hb
      have b3 : X.env.kindOf x = some .local := by simpa using b2
      have hl : X.env.scope.names.lookup x = some .local := b3
      cases e with
      | lc own g it c e =>
        unfold chkE at hv
        split at hv
        · rename_i elt2 tg iter ifs as scope2 p2 heq
          cases heq
          obtain ⟨h, h7⟩ := and2 hv
          obtain ⟨h, h6⟩ := and2 h
          obtain ⟨h, h5⟩ := and2 h
          obtain ⟨h, h4⟩ := and2 h
          obtain ⟨h1, h2, h3⟩ := and3 h
          cases of_decide_eq_true h1
          refine ps_mono (ps_setLc hC.calm hC.nd t1 hl hsw (sI it hC hS _ _ h2) (blkOk_by (own := own) (by rw [hS.sc, hC.N]; exact h3)) (fun s H A cl fp => sG (hC.blk s H scope _ fp) (hS.blk s H scope cl A fp) g _ h4) (fun s H A cl fp => ?_)
            (fun s H A cl fp => (sE e (hC.blk s H scope _ fp) (hS.blk s H scope cl A fp) _ _ h7).1 _ rfl) (fun x => chkI_folded it h2 X.env x)) fun D σ H h => lcR (tgs_in h5) (g_setR h)
          split at h6
          · split at h6
            · exact ts_yes
            · cases h6
          · exact pts_one ((sT c (hC.blk s H scope _ fp) (hS.blk s H scope cl A fp) _ _ h6).1 _ rfl)
          · cases h6
        · cases hv
      | lcl own i0 g c e =>
        unfold chkE at hv
        split at hv
        · rename_i elt2 tg x2 px2 ifs as scope2 p2 heq
          cases heq
          obtain ⟨h, h7⟩ := and2 hv
          obtain ⟨h, h6⟩ := and2 h
          obtain ⟨h, h5⟩ := and2 h
          obtain ⟨h, h4⟩ := and2 h
          obtain ⟨h1, h2, h3⟩ := and3 h
          cases of_decide_eq_true h1
          refine ps_mono (ps_setLc hC.calm hC.nd t1 hl hsw (pi_list (pe_nm hC hS h2)) (blkOk_by (own := own) (by rw [hS.sc, hC.N]; exact h3)) (fun s H A cl fp => sG (hC.blk s H scope _ fp) (hS.blk s H scope cl A fp) g _ h4) (fun s H A cl fp => ?_)
            (fun s H A cl fp => (sE e (hC.blk s H scope _ fp) (hS.blk s H scope cl A fp) _ _ h7).1 _ rfl) (fun x => rfl)) fun D σ H h => lclR (tgs_in h5) (g_setR h)
          split at h6
          · split at h6
            · exact ts_yes
            · cases h6
          · exact pts_one ((sT c (hC.blk s H scope _ fp) (hS.blk s H scope cl A fp) _ _ h6).1 _ rfl)
          · cases h6
        · cases hv
      | lcd own i0 g c e =>
        unfold chkE at hv
        split at hv
        · rename_i elt2 tg x2 px2 ifs as scope2 p2 heq
          cases heq
          obtain ⟨h, h7⟩ := and2 hv
          obtain ⟨h, h6⟩ := and2 h
          obtain ⟨h, h5⟩ := and2 h
          obtain ⟨h, h4⟩ := and2 h
          obtain ⟨h1, h2, h3⟩ := and3 h
          cases of_decide_eq_true h1
          have hb := ps_setLc (te := rE X.K Γ C.cons e) (tt := rT X.K Γ C.cons c) (g := rG X.K g) (ifs := ifs) (py := px) (spos := pos) hC.calm hC.nd t1 hl hsw (pi_keys (pe_nm hC hS h2)) (blkOk_by (own := own) (by rw [hS.sc, hC.N]; exact h3)) (fun s H A cl fp => sG (hC.blk s H scope _ fp) (hS.blk s H scope cl A fp) g _ h4) (fun s H A cl fp => by
              split at h6
              · split at h6
                · exact ts_yes
                · cases h6
              · exact pts_one ((sT c (hC.blk s H scope _ fp) (hS.blk s H scope cl A fp) _ _ h6).1 _ rfl)
              · cases h6)
            (fun s H A cl fp => (sE e (hC.blk s H scope _ fp) (hS.blk s H scope cl A fp) _ _ h7).1 _ rfl) (fun x => rfl)
          exact ps_mono (ps_or hb (ps_lock hb)) fun D σ H h => lcdR (tgs_in h5) (g_setR h)
        · cases hv
      | _ => exact absurd hv Bool.false_ne_true
  | SetComp _ _ _ _ => exact absurd (chk_plain _ _ _ _ hv) Bool.false_ne_true
  | DictComp _ _ _ _ _ => exact absurd hd.symm Bool.false_ne_true
  | _ => exact plain rfl
theorem sw_many {es vs : List Expr} {j k : Nat} {p q : Pos} {env : Env} (h : 4 ≤ es.length) : swappedStores [.Tuple es j p] (.Tuple vs k q) env = pure none := by
  have h2 : (es.length == 2) = false := beq_eq_false_iff_ne.mpr (by omega)
  have h3 : (es.length == 3) = false := beq_eq_false_iff_ne.mpr (by omega)
  unfold swappedStores
  simp only [h2, h3, Bool.or_self, Bool.not_false, Bool.true_or, if_true]
theorem fm_lt {α β : Type} (f : α → Option β) : ∀ l : List α, (∃ a ∈ l, f a = none) → (l.filterMap f).length < l.length
  | [], h => by
    obtain ⟨_, h, _⟩ := h
    cases h
  | a :: r, h => by
    have h0 : (r.filterMap f).length ≤ r.length := List.length_filterMap_le _ _
    cases e : f a with
    | none =>
      rw [List.filterMap_cons_none e, List.length_cons]
      omega
    | some b =>
      rw [List.filterMap_cons_some e, List.length_cons, List.length_cons]
      have := fm_lt f r (by
        obtain ⟨x, hx, hn⟩ := h
        rcases List.mem_cons.mp hx with z | z
        · rw [z, e] at hn
          cases hn
        · exact ⟨x, z, hn⟩)
      omega
theorem sw_cell {es vs : List Expr} {j k : Nat} {p q : Pos} {env : Env} (h : cellT env.scope es = true) : swappedStores [.Tuple es j p] (.Tuple vs k q) env = pure none := by
  unfold swappedStores
  simp only []
  split
  · rfl
  · split
    · rfl
    · split
      · rfl
      · rename_i hn
        exfalso
        apply hn
        rw [Bool.or_eq_true]
        refine .inl (bne_iff_ne.mpr (Nat.ne_of_lt (fm_lt _ _ ?_)))
        obtain ⟨e, he, hx⟩ := List.any_eq_true.mp h
        refine ⟨e, he, ?_⟩
        cases e with
        | Name x pos =>
          have hx : (!(env.scope.names.lookup x == some .local)) = true := hx
          have hx2 : ¬ env.scope.names.lookup x = some .local := by simpa using hx
          have hy : (env.kindOf x == some .local) = false := by
            cases h0 : (env.kindOf x == some .local) with
            | false => rfl
            | true => exact absurd (by simpa using h0 : env.kindOf x = some .local) hx2
          simp only [hy, Bool.false_and, Bool.false_eq_true, if_false]
        | _ => cases hx
theorem sw_fold {es vs : List Expr} {j k : Nat} {p q : Pos} {env : Env} (h : vs.all (foldedForSure 8) = true) : swappedStores [.Tuple es j p] (.Tuple vs k q) env = pure none := by
  unfold swappedStores
  simp only []
  split
  · rfl
  · split
    · rfl
    · split
      · rfl
      · first
        | rfl
        | rw [if_pos h]
theorem g_tgt (hC : COk X C Γ n) (hS : SOk X S) {gs : IGs} {e : IE} {es : List Expr} {j : Nat} {tp pos : Pos} {v : Expr} (ht : chkGs C S gs es = true) (hv : chkE C S e [v] none = true) (hn : isTup v = false ∨ (4 ≤ es.length ∨ cellT S.sc es = true)) :
    PS X (.Assign [.Tuple es j tp] v pos) (rS X.K Γ C.cons FU (.tgt gs e)) := by
  have pv := (sE e hC hS _ _ hv).1 _ rfl
  have pg := sG hC hS (.t gs) (.Tuple es j tp) ht
  have pl := chk_plain _ _ _ _ hv
  refine ps_mono (ps_asg pv pg (by cases v <;> first | exact absurd pl Bool.false_ne_true | rfl) (by
    cases v <;> first | exact absurd pl Bool.false_ne_true | rfl | skip
    rcases hn with z | z | z
    · exact sw_fold (by
        have z : (!(List.all _ (foldedForSure 8))) = false := z
        simpa using z)
    · exact sw_many z
    · exact sw_cell (by rw [hS.sc]; exact z))) fun D σ H ⟨G, F, env, fl, R, ev, k⟩ => ?_
  obtain ⟨p, e1, ev⟩ := obind ev
  refine ⟨G, F, env, p.1, p.2, R, e1, fun w H1 F1 R1 E1 q1 => ?_⟩
  obtain ⟨F2, R2, E2, q2⟩ := R.settle R1 E1 q1
  split at ev
  · rename_i ds hd
    obtain ⟨e2, e3, ev⟩ := obind ev
    cases ev
    exact ⟨G, F2, p.2, p.1.d, e2, R2, q2, by rw [hd]; exact e3, fun σ' R' _ _ _ => k σ' H1 F2 E2.mono R'⟩
  · cases ev
theorem two_vals {a b : IE} {K : PySem.W.Frag} {cons : List (Str × PyData)} {σ : L2.St} {H : Hp} {G : Gh} {F : Hp} {env : En} {p q : Sl × En} {R : List V → Hp → Prop} {tr : TA} (R0 : Rel K G σ H F env) (e1 : runE Γ cons a env = some p) (e2 : runE Γ cons b p.2 = some q)
    (k : ∀ v w H2 F2, Rel K G σ H2 F2 q.2 → Ext K σ env H F H2 F2 q.2 → Dq K F2 v p.1.d → Dq K F2 w q.1.d → tr σ H2 fun us H3 => R (v :: w :: us) H3) :
    tCons (rE K Γ cons a) (tCons (rE K Γ cons b) tr) σ H R := by
  refine ⟨G, F, env, p.1, p.2, R0, e1, fun v H1 F1 R1 E1 q1 => ?_⟩
  obtain ⟨F2, R2, E2, k1⟩ := R0.settle R1 E1 q1
  refine ⟨G, F2, p.2, q.1, q.2, R2, e2, fun w H3 F3 R3 E3 q3 => ?_⟩
  obtain ⟨F4, R4, E4, k2⟩ := R2.settle R3 E3 q3
  exact k v w H3 F4 R4 (E2.trans E4) (dpMono E4.mono _ k1) k2
theorem ne_ix (hC : COk X C Γ n) {i j : Nat} {x y : Str} (h1 : X.N[i]? = some x) (h2 : X.N[j]? = some y) (h : x ≠ y) : i ≠ j := fun e => h (by
  rw [e, h2] at h1
  exact (Option.some.inj h1).symm)
theorem RV.keep {K : PySem.W.Frag} {G : Gh} {σ : L2.St} {H F H1 F1 H3 F3 : Hp} {env env1 env3 : En} {v : V} {r : Sl} (R0 : Rel K G σ H F env) (E1 : Ext K σ env H F H1 F1 env1) (E3 : Ext K σ env1 H1 F1 H3 F3 env3) (q : RV K H H1 F1 v r) : RV K H H3 F3 v r := by
  cases r with
  | v d => exact dpMono E3.mono d q
  | b ds => exact q.elim
  | o ds =>
    obtain ⟨p, vs, rfl, h1, h2, h3, h4⟩ := q
    have no : ¬ Own σ env1 p := fun z => (R0.ownAt (E1.own p z)).1 h1
    refine ⟨p, vs, rfl, h1, ?_, E3.keep p _ h3 NT.lst no, dpAllMono E3.mono ds h4⟩
    cases e : F3 p with
    | none => rfl
    | some o =>
      rcases E3.fresh p (by rw [e]; simp) with z | z | z
      · exact absurd h2 z
      · rw [h3] at z
        cases z
      · exact absurd z no
  | w ds =>
    obtain ⟨p, vs, rfl, h1, h2, h3, h4⟩ := q
    have no : ¬ Own σ env1 p := fun z => (R0.ownAt (E1.own p z)).1 h1
    refine ⟨p, vs, rfl, h1, ?_, E3.keep p _ h3 NT.dK no, dpKVMono E3.mono ds h4⟩
    cases e : F3 p with
    | none => rfl
    | some o =>
      rcases E3.fresh p (by rw [e]; simp) with z | z | z
      · exact absurd h2 z
      · rw [h3] at z
        cases z
      · exact absurd z no
theorem own_set {σ : L2.St} {env : En} {i : Nat} {v : V} {r : Sl} {p : Addr} (h : Own (σ.set i (some v)) (env.set i (some r)) p) : Own σ env p ∨ (v = .ref p ∧ ∃ ds, r.m = some ds) := by
  obtain ⟨j, s, ds, e, m, g⟩ := h
  rw [at_set] at e
  rw [st_get] at g
  by_cases hj : i = j
  · subst hj
    rw [if_pos rfl] at g
    split at g
    · cases g
      by_cases hl : i < env.length
      · rw [if_pos ⟨rfl, hl⟩] at e
        cases e
        exact .inr ⟨rfl, ds, m⟩
      · rw [if_neg fun z => hl z.2] at e
        exact absurd (at_lt e) hl
    · cases g
  · rw [if_neg fun z => hj z.1] at e
    rw [if_neg hj] at g
    exact .inl ⟨j, s, ds, e, m, g⟩
/-- what is new since Hb stands in no name -/
def Nw (Hb : Hp) (σ : L2.St) (env : En) : Prop := ∀ p, Hb p = none → ¬ Own σ env p
theorem nw_ext {K : PySem.W.Frag} {G : Gh} {σ : L2.St} {H F H1 F1 : Hp} {env env1 : En} (R0 : Rel K G σ H F env) (E1 : Ext K σ env H F H1 F1 env1) : Nw H σ env1 := fun p h z => (R0.ownAt (E1.own p z)).1 h
theorem nw_put {K : PySem.W.Frag} {Hb Ha F' : Hp} {σ : L2.St} {env env' : En} {i : Nat} {v : V} {r : Sl} (n : Nw Hb σ env) (e : env.put i r = some env') (q : RV K Ha Hb F' v r) : Nw Hb (σ.set i (some v)) env' := by
  obtain ⟨rfl, _⟩ := put_inv e
  intro p h z
  rcases own_set z with z | ⟨rfl, ds, m⟩
  · exact n p h z
  · cases r with
    | v d => cases m
    | b ds => exact q.elim
    | o ds =>
      obtain ⟨p', vs, e2, h1, h2, h3, h4⟩ := q
      cases e2
      rw [h] at h3
      cases h3
    | w ds =>
      obtain ⟨p', vs, e2, h1, h2, h3, h4⟩ := q
      cases e2
      rw [h] at h3
      cases h3
theorem setN {K : PySem.W.Frag} {G : Gh} {σ σ0 : L2.St} {Hb Fb H' F' : Hp} {env0 env' env2 : En} {i : Nat} {v : V} {r : Sl} (R0 : Rel K G σ0 Hb Fb env0) (R : Rel K G σ H' F' env') (n : Nw Hb σ env') (q : RV K Hb H' F' v r) (e : env'.put i r = some env2) :
    Rel K G (σ.set i (some v)) H' F' env2 := by
  cases r with
  | v d => exact R.setv e q
  | b ds => exact q.elim
  | o ds =>
    obtain ⟨p, vs, rfl, h1, h2, h3, h4⟩ := q
    refine R.seto e ?_ h2 h3 h4 (n p h1)
    cases z : G.H0 p with
    | none => rfl
    | some o => exact absurd h1 (R0.live p (by rw [z]; simp))
  | w ds =>
    obtain ⟨p, vs, rfl, h1, h2, h3, h4⟩ := q
    refine R.setm e ?_ h2 h3 h4 (n p h1)
    cases z : G.H0 p with
    | none => rfl
    | some o => exact absurd h1 (R0.live p (by rw [z]; simp))
theorem g_par2 (hC : COk X C Γ n) (hS : SOk X S) {i j : Nat} {a b : IE} {x y : Str} {px py tp tp2 pos : Pos} {k1 k2 : Nat} {u v : Expr} (h1 : X.N[i]? = some x) (h2 : X.N[j]? = some y) (l1 : S.sc.names.lookup x = some .local) (l2 : S.sc.names.lookup y = some .local) (hl : px.line = py.line) (hxy : x ≠ y)
    (hf : ([u, v].all (foldedForSure 8)) = false) (hc : ([u, v].all (constantsAlone 8)) = false) (hk : S.sc.kind = .function) (ha : chkE C S a [u] none = true) (hb : chkE C S b [v] none = true) :
    PS X (.Assign [.Tuple [.Name x px, .Name y py] k1 tp] (.Tuple [u, v] k2 tp2) pos) (rS X.K Γ C.cons FU (.par2 i j a b)) := by
  have pu := chk_plain _ _ _ _ ha
  have pv := chk_plain _ _ _ _ hb
  rw [← hS.sc] at l1 l2 hk
  refine ps_mono (ps_par hC.calm hC.nd h1 h2 (ne_ix hC h1 h2 hxy) l1 l2 (pa_cons ((sE a hC hS _ _ ha).1 _ rfl) (pa_cons ((sE b hC hS _ _ hb).1 _ rfl) pa_nil (plain_star pv _ _)) (plain_star pu _ _)) (sw2 hk l1 l2 hl hxy (plain_notStar pu) (plain_notStar pv) hf hc)) fun D σ H ⟨G, F, env, fl, R, ev, k⟩ => ?_
  obtain ⟨p, e1, ev⟩ := obind ev
  obtain ⟨q, e2, ev⟩ := obind ev
  obtain ⟨w1, e3, ev⟩ := obind ev
  obtain ⟨w2, e4, ev⟩ := obind ev
  cases ev
  refine ⟨G, F, env, p.1, p.2, R, e1, fun v H1 F1 R1 E1 q1 => ⟨G, F1, p.2, q.1, q.2, R1, e2, fun w H3 F3 R3 E3 q3 => ⟨v, w, rfl, k _ _ _ (E1.trans E3).mono ?_⟩⟩⟩
  have n1 := nw_ext R (E1.trans E3)
  have n2 := nw_ext R1 E3
  exact setN R1 (setN R R3 n1 (q1.keep R E1 E3) e3) (nw_put n2 e3 q1) q3 e4
theorem g_par3 (hC : COk X C Γ n) (hS : SOk X S) {i j l : Nat} {a b c : IE} {x y z : Str} {px py pz tp tp2 pos : Pos} {k1 k2 : Nat} {u v w : Expr} (h1 : X.N[i]? = some x) (h2 : X.N[j]? = some y) (h3 : X.N[l]? = some z) (l1 : S.sc.names.lookup x = some .local) (l2 : S.sc.names.lookup y = some .local) (l3 : S.sc.names.lookup z = some .local)
    (hl : px.line = py.line) (hl2 : px.line = pz.line) (hxy : x ≠ y) (hxz : x ≠ z) (hyz : y ≠ z) (hf : ([u, v, w].all (foldedForSure 8)) = false) (hc : ([u, v, w].all (constantsAlone 8)) = false) (hk : S.sc.kind = .function) (ha : chkE C S a [u] none = true) (hb : chkE C S b [v] none = true) (hw : chkE C S c [w] none = true) :
    PS X (.Assign [.Tuple [.Name x px, .Name y py, .Name z pz] k1 tp] (.Tuple [u, v, w] k2 tp2) pos) (rS X.K Γ C.cons FU (.par3 i j l a b c)) := by
  have pu := chk_plain _ _ _ _ ha
  have pv := chk_plain _ _ _ _ hb
  have pw := chk_plain _ _ _ _ hw
  rw [← hS.sc] at l1 l2 l3 hk
  refine ps_mono (ps_par3 hC.calm hC.nd h1 h2 h3 (ne_ix hC h1 h2 hxy) (ne_ix hC h1 h3 hxz) (ne_ix hC h2 h3 hyz) l1 l2 l3
    (pa_cons ((sE a hC hS _ _ ha).1 _ rfl) (pa_cons ((sE b hC hS _ _ hb).1 _ rfl) (pa_cons ((sE c hC hS _ _ hw).1 _ rfl) pa_nil (plain_star pw _ _)) (plain_star pv _ _)) (plain_star pu _ _)) (sw3 hk l1 l2 l3 hl hl2 hxy hxz hyz (plain_notStar pu) (plain_notStar pv) (plain_notStar pw) hf hc)) fun D σ H ⟨G, F, env, fl, R, ev, k⟩ => ?_
  obtain ⟨p, e1, ev⟩ := obind ev
  obtain ⟨q, e2, ev⟩ := obind ev
  obtain ⟨r, e5, ev⟩ := obind ev
  obtain ⟨w1, e3, ev⟩ := obind ev
  obtain ⟨w2, e4, ev⟩ := obind ev
  obtain ⟨w3, e6, ev⟩ := obind ev
  cases ev
  refine ⟨G, F, env, p.1, p.2, R, e1, fun v H1 F1 R1 E1 q1 => ⟨G, F1, p.2, q.1, q.2, R1, e2, fun w H3 F3 R3 E3 q3 => ⟨G, F3, q.2, r.1, r.2, R3, e5, fun t H5 F5 R5 E5 q5 => ⟨v, w, t, rfl, k _ _ _ ((E1.trans E3).trans E5).mono ?_⟩⟩⟩⟩
  have n1 := nw_ext R ((E1.trans E3).trans E5)
  have n2 := nw_ext R1 (E3.trans E5)
  have n3 := nw_ext R3 E5
  have a1 := setN R R5 n1 (q1.keep R E1 (E3.trans E5)) e3
  have a2 := setN R1 a1 (nw_put n2 e3 q1) (q3.keep R1 E3 E5) e4
  exact setN R3 a2 (nw_put (nw_put n3 e3 (q1.keep R E1 E3)) e4 q3) q5 e6
/-! ### several names at once -/
inductive Hands (K : PySem.W.Frag) (H' F' : Hp) : Hp → List V → List Sl → Prop
  | nil {H : Hp} : Hands K H' F' H [] []
  | cons {H H1 : Hp} {v : V} {vs : List V} {r : Sl} {rs : List Sl} : RV K H H' F' v r → (∀ p ds, r.m = some ds → v = .ref p → H1 p ≠ none) → (∀ b, H b ≠ none → H1 b ≠ none) → Hands K H' F' H1 vs rs → Hands K H' F' H (v :: vs) (r :: rs)
theorem Hands.len {K : PySem.W.Frag} {H' F' : Hp} : ∀ {rs : List Sl} {H : Hp} {vs : List V}, Hands K H' F' H vs rs → vs.length = rs.length
  | _, _, _, .nil => rfl
  | _, _, _, .cons _ _ _ h => by rw [List.length_cons, List.length_cons, h.len]
/-- a new object beside them -/
theorem Hands.beside {K : PySem.W.Frag} {H' F' : Hp} {T : Addr} {o : HO} (hT : H' T = none) : ∀ {rs : List Sl} {H : Hp} {vs : List V}, Hands K H' F' H vs rs → Hands K (upd H' T o) F' H vs rs
  | _, _, _, .nil => .nil
  | _, _, _, .cons (r := r) q h1 h2 h3 => by
    refine .cons ?_ h1 h2 (h3.beside hT)
    cases r with
    | v d => exact q
    | b ds => exact q
    | o ds =>
      obtain ⟨p, vs, e, a, b, c, d⟩ := q
      exact ⟨p, vs, e, a, b, by rw [upd_ne (ne_of_none c hT)]; exact c, d⟩
    | w ds =>
      obtain ⟨p, vs, e, a, b, c, d⟩ := q
      exact ⟨p, vs, e, a, b, by rw [upd_ne (ne_of_none c hT)]; exact c, d⟩
def rR (K : PySem.W.Frag) (Γ : Tab) (cs : List (Str × PyData)) (es : IL) : TA := fun σ H Q => ∃ G F env rs env', Rel K G σ H F env ∧ runR Γ cs es env = some (rs, env') ∧ ∀ vs H' F', Rel K G σ H' F' env' → Ext K σ env H F H' F' env' → Hands K H' F' H vs rs → Q vs H'
theorem sR (hC : COk X C Γ n) (hS : SOk X S) : ∀ (es : IL) (l : List Expr), chkL C S es l = true → PA X l (rR X.K Γ C.cons es)
  | .nil, l, h => by
    cases l with
    | nil =>
      refine pa_mono pa_nil fun σ H Q ⟨G, F, env, rs, env', R, e, k⟩ => ?_
      cases e
      exact k [] H F R Ext.refl .nil
    | cons _ _ => exact absurd h Bool.false_ne_true
  | .cons a r, l, h => by
    cases l with
    | nil => exact absurd h Bool.false_ne_true
    | cons z zs =>
      obtain ⟨h1, h2⟩ := and2 h
      refine pa_mono (pa_cons ((sE a hC hS _ _ h1).1 _ rfl) (sR hC hS r _ h2) (plain_star (chk_plain _ _ _ _ h1) _ _)) fun σ H Q ⟨G, F, env, rs, env', R, e, k⟩ => ?_
      obtain ⟨p, e1, e⟩ := obind e
      obtain ⟨q, e2, e⟩ := obind e
      cases e
      refine ⟨G, F, env, p.1, p.2, R, e1, fun v H1 F1 R1 E1 q1 => ⟨G, F1, p.2, q.1, q.2, R1, e2, fun vs H2 F2 R2 E2 hs => k (v :: vs) H2 F2 R2 (E1.trans E2) (.cons (q1.keep R E1 E2) (fun b ds er ev => ?_) E1.live hs)⟩⟩
      cases hp1 : p.1 with
      | v d =>
        rw [hp1] at er
        cases er
      | b d =>
        rw [hp1] at q1
        exact q1.elim
      | o d =>
        rw [hp1] at q1
        obtain ⟨p', ws, ev', _, _, a3, _⟩ := q1
        rw [ev] at ev'
        cases ev'
        rw [a3]
        exact fun z => nomatch z
      | w d =>
        rw [hp1] at q1
        obtain ⟨p', ws, ev', _, _, a3, _⟩ := q1
        rw [ev] at ev'
        cases ev'
        rw [a3]
        exact fun z => nomatch z
  | .star a r, l, h => by
    refine pa_mono (sV (.star a r) hC hS l h) fun σ H Q ⟨G, F, env, rs, env', R, e, k⟩ => ?_
    cases e
  | .io i r, l, h => by
    refine pa_mono (sV (.io i r) hC hS l h) fun σ H Q ⟨G, F, env, rs, env', R, e, k⟩ => ?_
    cases e
def setsN (σ : L2.St) : List Nat → List V → L2.St
  | i :: is, v :: vs => setsN (σ.set i (some v)) is vs
  | _, _ => σ
theorem sGn (hC : COk X C Γ n) (hS : SOk X S) : ∀ (is : List Nat) (es : List Expr), chkN C S is es = true → PGs X es (fun vs σ H Q => vs.length = is.length ∧ Q (setsN σ is vs) H) ∧ es.length = is.length ∧ (assignEach es X.env).length = is.length ∧ (assignEach es X.env).findIdx? (·.1) = none
  | [], es, h => by
    cases es with
    | nil =>
      refine ⟨pgs_mono pgs_nil fun vs σ H Q ⟨e, q⟩ => ?_, rfl, rfl, rfl⟩
      cases vs with
      | nil => exact ⟨rfl, q⟩
      | cons _ _ => cases e
    | cons _ _ => exact absurd h Bool.false_ne_true
  | i :: is, es, h => by
    unfold chkN at h
    split at h
    · rename_i x px zs
      obtain ⟨h1, h2⟩ := and2 h
      obtain ⟨t1, t2, t3⟩ := tg_of hC hS h1
      obtain ⟨a, b, c, d⟩ := sGn hC hS is zs h2
      refine ⟨pgs_mono (pgs_cons (pg_name hC.nd t1 t2 t3) a rfl) fun vs σ H Q ⟨e, q⟩ => ?_, by simp [b], by
        show ((assignEach zs X.env).length + 1) = _
        rw [c]
        rfl, ?_⟩
      · cases vs with
        | nil => cases e
        | cons v vs => exact ⟨v, vs, rfl, by simpa using e, q⟩
      · show List.findIdx? (·.1) ((false, _) :: assignEach zs X.env) = none
        rw [List.findIdx?_cons]
        simp [d]
    · cases h
theorem putsR {K : PySem.W.Frag} {G : Gh} {H' F' : Hp} : ∀ (is : List Nat) (rs : List Sl) (H : Hp) (vs : List V) (σ : L2.St) (env env2 : En), Rel K G σ H' F' env → (∀ b, G.H0 b ≠ none → H b ≠ none) → Nw H σ env → Hands K H' F' H vs rs → putN is rs env = some env2 →
    Rel K G (setsN σ is vs) H' F' env2
  | [], [], _, _, σ, env, env2, R, _, _, hs, e => by
    cases hs
    cases e
    exact R
  | [], _ :: _, _, _, _, _, _, _, _, _, _, e => by cases e
  | _ :: _, [], _, _, _, _, _, _, _, _, _, e => by cases e
  | i :: is, r :: rs, H, _, σ, env, env2, R, live, nw, hs, e => by
    obtain ⟨env1, e1, e2⟩ := obind e
    cases hs with
    | cons q h1 h2 hs =>
      rename_i H1 v vs
      have R1 : Rel K G (σ.set i (some v)) H' F' env1 := by
        cases r with
        | v d => exact R.setv e1 q
        | b ds => exact q.elim
        | o ds =>
          obtain ⟨p, ws, rfl, a1, a2, a3, a4⟩ := q
          refine R.seto e1 ?_ a2 a3 a4 (nw p a1)
          cases z : G.H0 p with
          | none => rfl
          | some o => exact absurd a1 (live p (by rw [z]; simp))
        | w ds =>
          obtain ⟨p, ws, rfl, a1, a2, a3, a4⟩ := q
          refine R.setm e1 ?_ a2 a3 a4 (nw p a1)
          cases z : G.H0 p with
          | none => rfl
          | some o => exact absurd a1 (live p (by rw [z]; simp))
      refine putsR is rs H1 vs (σ.set i (some v)) env1 env2 R1 (fun b hb => h2 b (live b hb)) (fun p hp z => ?_) hs e2
      obtain ⟨rfl, _⟩ := put_inv e1
      have hp0 : H p = none := by
        cases hh : H p with
        | none => rfl
        | some o => exact absurd hp (h2 p (by rw [hh]; simp))
      rcases own_set z with z | ⟨ev, ds, hm⟩
      · exact nw p hp0 z
      · cases r with
        | v d => cases hm
        | b ds => exact q.elim
        | o ds => exact h1 p _ rfl ev hp
        | w ds => exact h1 p _ rfl ev hp
theorem runR_len : ∀ (es : IL) (vs : List Expr) (env : En) (q : List Sl × En), chkL C S es vs = true → runR Γ C.cons es env = some q → q.1.length = vs.length
  | .nil, vs, env, q, h, e => by
    cases e
    cases vs with
    | nil => rfl
    | cons _ _ => exact absurd h Bool.false_ne_true
  | .cons a r, vs, env, q, h, e => by
    obtain ⟨p1, _, e⟩ := obind e
    obtain ⟨q1, e2, e⟩ := obind e
    cases e
    cases vs with
    | nil => exact absurd h Bool.false_ne_true
    | cons z zs =>
      obtain ⟨_, h2⟩ := and2 h
      rw [List.length_cons, List.length_cons, runR_len r zs _ _ h2 e2]
  | .star a r, _, _, _, _, e => by cases e
  | .io i r, _, _, _, _, e => by cases e
theorem g_parn (hC : COk X C Γ n) (hS : SOk X S) {is : List Nat} {es : IL} {ts vs : List Expr} {j j2 : Nat} {tp tp2 pos : Pos} (ht : chkN C S is ts = true) (hv : chkL C S es vs = true) (hl : vs.length ≤ 1000) (hn : 4 ≤ ts.length ∨ cellT S.sc ts = true) :
    PS X (.Assign [.Tuple ts j tp] (.Tuple vs j2 tp2) pos) (rS X.K Γ C.cons FU (.parn is es)) := by
  obtain ⟨a, b, c, d⟩ := sGn hC hS is ts ht
  refine ps_mono (ps_asg (pe_tup (sR hC hS es vs hv)) (pg_tup hC.calm a c d) rfl (by
    rcases hn with z | z
    · exact sw_many z
    · exact sw_cell (by rw [hS.sc]; exact z))) fun D σ H ⟨G, F, env, fl, R, ev, k⟩ => ?_
  obtain ⟨p, e1, ev⟩ := obind ev
  obtain ⟨e2, e3, ev⟩ := obind ev
  cases ev
  have lenP : ∀ (is : List Nat) (rs : List Sl) (env env2 : En), putN is rs env = some env2 → rs.length = is.length := by
    intro is
    induction is with
    | nil =>
      intro rs env env2 e
      cases rs with
      | nil => rfl
      | cons _ _ => cases e
    | cons i is ih =>
      intro rs env env2 e
      cases rs with
      | nil => cases e
      | cons r rs =>
        obtain ⟨e1, _, e⟩ := obind e
        rw [List.length_cons, List.length_cons, ih rs _ _ e]
  refine ⟨G, F, env, p.1, p.2, R, e1, fun ws H1 F1 R1 E1 hs => ⟨?_, fun T hT => ?_⟩⟩
  · have h1 := hs.len
    have h2 := runR_len es vs env p hv e1
    have h3 : (1000 : Nat) ≤ sizeLine := by decide
    omega
  · obtain ⟨R2, E2⟩ := R1.grow (F' := F1) (H' := upd H1 T (.tup ws)) (Same.refl _) (fun b o z => by
      rw [upd_ne (ne_of_none (R1.sub b o z) hT)]
      exact R1.sub b o z) (same_upd1 hT) (.upd .tup) (fun b z => .inl z)
    have h1 := hs.len
    have h2 := lenP is p.1 p.2 e2 e3
    refine ⟨T, ws, rfl, .inl (.inl upd_same), by omega, by omega, ?_⟩
    refine k _ _ F1 (E1.trans E2).mono (putsR is p.1 H ws σ p.2 e2 R2 R.live (fun q hq z => (R.ownAt (E1.own q z)).1 hq) (hs.beside hT) e3)
/-! ### items of a name's list -/
theorem atS_of {env : En} {i : Nat} {xs : List PyData} (h : atS env i = some xs) : ∃ s, env.at i = some s ∧ s.m = some (.l xs) := by
  unfold atS at h
  split at h
  · cases h
    exact ⟨_, by assumption, rfl⟩
  · cases h
    exact ⟨_, by assumption, rfl⟩
  · cases h
theorem setS_of {env env' : En} {i : Nat} {ys : List PyData} (h : setS env i ys = some env') : ∃ s s' xs, env.at i = some s ∧ s.m = some (.l xs) ∧ s'.m = some (.l ys) ∧ isB s' = isB s ∧ env' = env.set i (some s') := by
  unfold setS at h
  split at h
  · rename_i xs h0
    cases h
    exact ⟨.o xs, .o ys, xs, h0, rfl, rfl, rfl, rfl⟩
  · rename_i xs h0
    cases h
    exact ⟨.b xs, .b ys, xs, h0, rfl, rfl, rfl, rfl⟩
  · cases h
theorem ixN_len {m m' : Nat} (h : m = m') (i : Int) : ixN m i = ixN m' i := by rw [h]
theorem g_six (hC : COk X C Γ n) (hS : SOk X S) {i : Nat} {c e : IE} {x : Str} {kx v : Expr} {px sp pos : Pos} (hx : nmS C S i x = true) (hk : chkE C S c [kx] none = true) (hv : chkE C S e [v] none = true) :
    PS X (.Assign [.Subscript (.Name x px) kx sp] v pos) (rS X.K Γ C.cons FU (.six i c e)) := by
  have pv := (sE e hC hS _ _ hv).1 _ rfl
  have pk := h_of hC hS hk ((sE c hC hS _ _ hk).1 _ rfl)
  have pl := chk_plain _ _ _ _ hv
  have pk2 := chk_plain _ _ _ _ hk
  refine ps_mono (ps_asg pv (pg_sub (pe_nm (p := px) hC hS hx) pk set_list (by cases kx <;> first | exact absurd pk2 Bool.false_ne_true | (intro _; rfl))) (by cases v <;> first | exact absurd pl Bool.false_ne_true | rfl)) fun D σ H ⟨G, F, env, fl, R, ev, k⟩ => ?_
  obtain ⟨p, e1, ev⟩ := obind ev
  obtain ⟨hm, ev⟩ := oite ev
  obtain ⟨q, e2, ev⟩ := obind ev
  obtain ⟨y, e3, ev⟩ := obind ev
  refine ⟨G, F, env, p.1, p.2, R, e1, fun w H1 F1 R1 E1 q1 => ?_⟩
  obtain ⟨F2, R2, E2, q2⟩ := R.settle R1 E1 q1
  obtain ⟨s0, xs0, a0, b0⟩ := mutAt_of hm
  obtain ⟨pa, vs0, g0, _⟩ := R2.mu i s0 xs0 a0 b0
  refine ⟨.ref pa, g0, G, F2, p.2, q.1, q.2, R2, e2, fun u H3 F3 R3 E3 q3 => ?_⟩
  split at ev
  · obtain ⟨xs, e4, ev⟩ := obind ev
    obtain ⟨j, e5, ev⟩ := obind ev
    obtain ⟨e', e6, ev⟩ := obind ev
    cases ev
    cases opd_int (q3.opd R3 e3)
    obtain ⟨s, a1, b1⟩ := atS_of e4
    obtain ⟨pb, vs, g1, f1, h1, dq, _⟩ := R3.mu i s xs a1 b1
    rw [g0] at g1
    cases g1
    obtain ⟨s2, s', xs2, a2, b2, b3, b4, rfl⟩ := setS_of e6
    refine ⟨pa, vs, _, j, rfl, rfl, h1, by rw [dpAll_len dq]; exact e5, ?_⟩
    obtain ⟨R4, E4⟩ := R3.change (s' := s') a2 b2 g0 h1 b3 b4 (dpAll_set (dpMono E3.mono _ q2) j dq)
    exact k _ _ _ ((E2.trans E3).trans E4).mono R4
  · cases ev
theorem g_dput (hC : COk X C Γ n) (hS : SOk X S) {i : Nat} {c e : IE} {x : Str} {kx v : Expr} {px sp pos : Pos} (hx : nmS C S i x = true) (hk : chkE C S c [kx] none = true) (hv : chkE C S e [v] none = true) :
    PS X (.Assign [.Subscript (.Name x px) kx sp] v pos) (rS X.K Γ C.cons FU (.dput i c e)) := by
  have pv := d_of ((sE e hC hS _ _ hv).1 _ rfl)
  have pk := h_of hC hS hk ((sE c hC hS _ _ hk).1 _ rfl)
  have pl := chk_plain _ _ _ _ hv
  refine ps_mono (ps_dput (by have := hC.units; omega) (pe_nm (p := px) hC hS hx) pk pv (by cases v <;> first | exact absurd pl Bool.false_ne_true | rfl)) fun D σ H ⟨G, F, env, fl, R, ev, k⟩ => ?_
  obtain ⟨p, e1, ev⟩ := obind ev
  obtain ⟨k0, e0, ev⟩ := obind ev
  obtain ⟨q, e2, ev⟩ := obind ev
  obtain ⟨y, e3, ev⟩ := obind ev
  obtain ⟨z, e4, ev⟩ := obind ev
  refine ⟨G, F, env, p.1, p.2, R, e1, fun w H1 F1 R1 E1 q1 => ?_⟩
  obtain ⟨a, _, g0, _⟩ := dct_of R1 e0
  refine ⟨.ref a, g0, G, F1, p.2, q.1, q.2, R1, e2, fun u H2 F2 R2 E2 q2 => ?_⟩
  split at ev
  · rename_i kvs ea
    split at ev
    · rename_i hz
      cases ev
      obtain ⟨b, ps, g1, fb, hb, dq, _⟩ := R2.muD i _ _ ea rfl
      rw [g0] at g1
      cases g1
      have dq2 := dq.put (K := X.K) (F := F2) e4 (dpMono E2.mono _ q1)
      obtain ⟨R4, E4⟩ := R2.changeG (s' := .w (dput kvs y z p.1.d)) (ds' := .d (dput kvs y z p.1.d)) (ws := .dK (putK ps z w)) ea rfl g0 rfl rfl dq2
      exact ⟨a, _, rfl, .inl ⟨ps, z, hb, key_of (q2.opd R2 e3) e4, by rw [dq.len]; exact hz, rfl⟩, k _ _ _ ((E1.trans E2).trans E4).mono R4⟩
    · cases ev
  · cases ev
/-! ### += -/
def qAug (K : PySem.W.Frag) (op : Operator) : TIp := fun x y H Q => ∃ F a b r, Same F H ∧ Opd K F H x a ∧ Opd K F H y b ∧ augD op a b = some r ∧ ∀ v, Dq K F v r → Q v H
theorem ip_aug (op : Operator) : PIp X op (qAug X.K op) := by
  intro pins s σ H x y v u Q I rx ry h
  obtain ⟨F, a, b, r, sm, oa, ob, e, m⟩ := h
  unfold augD at e
  split at e
  · cases e
    cases opd_int oa
    cases opd_int ob
    exact iop_add pins s σ H _ _ v u Q I rx ry ⟨_, _, rfl, rfl, m _ (.int _)⟩
  · cases e
    cases opd_int oa
    cases opd_int ob
    exact iop_sub pins s σ H _ _ v u Q I rx ry ⟨_, _, rfl, rfl, m _ (.int _)⟩
  · obtain ⟨hc, e⟩ := oite e
    cases e
    cases opd_int oa
    cases opd_int ob
    exact iop_fdivW pins s σ H _ _ v u Q I rx ry ⟨_, _, rfl, rfl, hc, m _ (.int _)⟩
  · obtain ⟨hc, e⟩ := oite e
    cases e
    cases opd_str oa
    cases opd_str ob
    exact iop_add_str pins s σ H _ _ v u Q I rx ry ⟨_, _, rfl, rfl, hc, m _ (.str _)⟩
  · cases e
theorem g_aug (hC : COk X C Γ n) (hS : SOk X S) {i : Nat} {op : Operator} {e : IE} {x : Str} {v : Expr} {px pos : Pos} (ht : tgS C S i x = true) (hv : chkE C S e [v] none = true) : PS X (.AugAssign (.Name x px) op v pos) (rS X.K Γ C.cons FU (.aug i op e)) := by
  obtain ⟨t1, t2, t3⟩ := tg_of hC hS ht
  have pv := h_of hC hS hv ((sE e hC hS _ _ hv).1 _ rfl)
  refine ps_mono (ps_aug hC.nd t1 t2 pv (ip_aug op) t3) fun D σ H ⟨G, F, env, fl, R, ev, k⟩ => ?_
  obtain ⟨p, e1, ev⟩ := obind ev
  split at ev
  · rename_i x0 a0
    obtain ⟨y, e2, ev⟩ := obind ev
    obtain ⟨d, e3, ev⟩ := obind ev
    obtain ⟨e', e4, ev⟩ := obind ev
    cases ev
    obtain ⟨w, g0, q0⟩ := R.val i _ a0
    exact ⟨w, g0, G, F, env, p.1, p.2, R, e1, fun u H1 F1 R1 E1 q1 => ⟨F1, _, _, _, R1.sub, .inl (dpMono E1.mono _ q0), q1.opd R1 e2, e3, fun z qz => k _ _ _ E1.mono (R1.setv e4 qz)⟩⟩
  · cases ev
def qGet (K : PySem.W.Frag) : V → V → Hp → VK → Prop := fun o i H Q => ∃ p xs z v, o = .ref p ∧ i = .int z ∧ SqL K H p xs ∧ atI xs z = some v ∧ Q v H
theorem get_list : PGet X (qGet X.K) := by
  intro pins s σ H o i ov iv Q I r1 r2 h
  obtain ⟨p, xs, z, v, rfl, rfl, hq, he, q⟩ := h
  cases r1
  obtain ⟨t, rfl⟩ := r2
  obtain ⟨its, r, pl, hz⟩ := I.list hq
  obtain ⟨j, h1, h2, h3, h4, h5⟩ := atI_get he
  obtain ⟨w, ew, rw'⟩ := r.get h2
  have hl := r.length
  have hn := line63
  by_cases h0 : 0 ≤ z
  · rw [seqIndex_of h0 h5] at h1
    have hj := Option.some.inj h1
    exact wpAny_getItem_list pl.isList h0 (by omega) (x := w) (by rw [hj]; simpa using ew) ⟨v, H, I, rw', q⟩
  · rw [seqIndex_neg (by omega) h4] at h1
    have hj := Option.some.inj h1
    refine wpAny_getItem_list_neg pl.isList (by omega) (by rw [List.size_toArray]; omega) (by omega) (x := w) ?_ ⟨v, H, I, rw', q⟩
    rw [List.size_toArray, ← hl, hj]
    simpa using ew
theorem g_aix (hC : COk X C Γ n) (hS : SOk X S) {i : Nat} {op : Operator} {c e : IE} {x : Str} {kx v : Expr} {px sp pos : Pos} (hx : nmS C S i x = true) (hk : chkE C S c [kx] none = true) (hv : chkE C S e [v] none = true) :
    PS X (.AugAssign (.Subscript (.Name x px) kx sp) op v pos) (rS X.K Γ C.cons FU (.aix i c op e)) := by
  have pv := h_of hC hS hv ((sE e hC hS _ _ hv).1 _ rfl)
  have pk := h_of hC hS hk ((sE c hC hS _ _ hk).1 _ rfl)
  have pl := chk_plain _ _ _ _ hk
  refine ps_mono (ps_augS (pe_nm (p := px) hC hS hx) pk get_list pv (ip_aug op) set_list (by cases kx <;> first | exact absurd pl Bool.false_ne_true | (intros; rfl))) fun D σ H ⟨G, F, env, fl, R, ev, k⟩ => ?_
  obtain ⟨hm, ev⟩ := oite ev
  obtain ⟨p, e1, ev⟩ := obind ev
  obtain ⟨y, e2, ev⟩ := obind ev
  obtain ⟨s0, xs0, a0, b0⟩ := mutAt_of hm
  obtain ⟨pa, vs0, g0, _⟩ := R.mu i s0 xs0 a0 b0
  refine ⟨.ref pa, g0, G, F, env, p.1, p.2, R, e1, fun u H1 F1 R1 E1 q1 => ?_⟩
  split at ev
  · obtain ⟨xs, e3, ev⟩ := obind ev
    obtain ⟨j, e4, ev⟩ := obind ev
    obtain ⟨old, e5, ev⟩ := obind ev
    obtain ⟨q, e6, ev⟩ := obind ev
    obtain ⟨w, e7, ev⟩ := obind ev
    obtain ⟨d, e8, ev⟩ := obind ev
    obtain ⟨ys, e9, ev⟩ := obind ev
    obtain ⟨j', e10, ev⟩ := obind ev
    obtain ⟨e', e11, ev⟩ := obind ev
    cases ev
    cases opd_int (q1.opd R1 e2)
    obtain ⟨s, a1, b1⟩ := atS_of e3
    obtain ⟨pb, vs, g1, f1, h1, dq, _⟩ := R1.mu i s xs a1 b1
    rw [g0] at g1
    cases g1
    obtain ⟨ov, ho, qo⟩ := dpAll_get dq e5
    refine ⟨pa, vs, _, ov, rfl, rfl, .inl (.inl h1), ?_, G, F1, p.2, q.1, q.2, R1, e6, fun t H2 F2 R2 E2 q2 => ?_⟩
    · unfold atI
      rw [dpAll_len dq, e4]
      exact ho
    · refine ⟨F2, old, w, d, R2.sub, .inl (dpMono E2.mono _ qo), q2.opd R2 e7, e8, fun z qz => ?_⟩
      obtain ⟨s', a3, b3⟩ := atS_of e9
      obtain ⟨pc, vs', g3, f3, h3, dq3, _⟩ := R2.mu i s' ys a3 b3
      rw [g0] at g3
      cases g3
      obtain ⟨s2, s'', xs2, a2, b2, c3, c4, rfl⟩ := setS_of e11
      refine ⟨pa, vs', _, j', rfl, rfl, h3, by rw [dpAll_len dq3]; exact e10, ?_⟩
      obtain ⟨R4, E4⟩ := R2.change (s' := s'') a2 b2 g0 h3 c3 c4 (dpAll_set qz j' dq3)
      exact k _ _ _ ((E1.trans E2).trans E4).mono R4
  · cases ev
end
end PF

/-! PF12: the soundness of statements and blocks; defs. -/
namespace PF
open PySem PySem.Spec PyProof.Rows L2
section
variable {X : Cx} {C : Cfg} {S : Sc} {Γ : Tab} {n FU : Nat}
theorem rt_of {K : PySem.W.Frag} {G : Gh} {σ : L2.St} {H F H' F' : Hp} {env : En} {v : V} {r : Sl} (R : Rel K G σ H F env) (q : RV K H H' F' v r) : RT K G H' F' v r := by
  cases r with
  | v d => exact q
  | b ds => exact q
  | o ds =>
    obtain ⟨p, vs, e, h1, h2, h3, h4⟩ := q
    refine ⟨p, vs, e, ?_, h2, h3, h4⟩
    cases z : G.H0 p with
    | none => rfl
    | some o => exact absurd h1 (R.live p (by rw [z]; simp))
  | w ds =>
    obtain ⟨p, vs, e, h1, h2, h3, h4⟩ := q
    refine ⟨p, vs, e, ?_, h2, h3, h4⟩
    cases z : G.H0 p with
    | none => rfl
    | some o => exact absurd h1 (R.live p (by rw [z]; simp))
theorem g_ret {e : IE} {v : Expr} {pos : Pos} (hv : PE X v (rE X.K Γ C.cons e)) : PS X (.Return (some v) pos) (rS X.K Γ C.cons FU (.ret e)) :=
  ps_mono (ps_ret hv) fun D σ H ⟨G, F, env, fl, R, ev, k⟩ => by
    obtain ⟨p, e1, ev⟩ := obind ev
    cases ev
    exact ⟨G, F, env, p.1, p.2, R, e1, fun w H1 F1 R1 E1 q1 => k _ _ _ _ E1.mono R1 (rt_of R q1)⟩
theorem Rel.drop {K : PySem.W.Frag} {G : Gh} {σ : L2.St} {H F : Hp} {env : En} (R : Rel K G σ H F env) (i : Nat) : Rel K G σ H F (env.set i none) := by
  have key : ∀ j s, En.at (env.set i none) j = some s → env.at j = some s := fun j s e => by
    rw [at_set] at e
    split at e
    · cases e
    · exact e
  refine ⟨by rw [List.length_set]; exact R.len, R.sub, R.base, R.fro, R.live, R.new, fun j d e => R.val j d (key j _ e), fun j s ds e => R.mug j s ds (key j _ e), fun j k p n ⟨s, ds, e, m⟩ ⟨s', ds', e', m'⟩ => R.apart j k p n ⟨s, ds, key j _ e, m⟩ ⟨s', ds', key k _ e', m'⟩, R.tabs, R.ent⟩
theorem Rel.wipS {K : PySem.W.Frag} {G : Gh} {σ : L2.St} {H F : Hp} {env : En} (R : Rel K G σ H F env) : ∀ ws : List Nat, Rel K G σ H F (wipeS env ws)
  | [] => R
  | i :: r => (R.wipS r).drop i
theorem g_retx (hC : COk X C Γ n) (hS : SOk X S) {i : Nat} {x : Str} {px pos : Pos} (h : nmS C S i x = true) : PS X (.Return (some (.Name x px)) pos) (rS X.K Γ C.cons FU (.retx i)) :=
  ps_mono (ps_ret (pe_nm hC hS h)) fun D σ H ⟨G, F, env, fl, R, ev, k⟩ => by
    have ev : (match env.at i with
      | some (.o ds) => some (Fl.rt (.o ds) (env.set i none))
      | some (.w ds) => some (Fl.rt (.w ds) (env.set i none))
      | some (.v d) => some (Fl.rt (.v d) env)
      | _ => none) = some fl := ev
    split at ev
    · rename_i ds e0
      cases ev
      obtain ⟨p, vs, a, f, hp, q, b1, _⟩ := R.mu i _ ds e0 rfl
      exact ⟨_, a, k _ _ _ _ (Same.refl _) (R.drop i) ⟨p, vs, rfl, b1 rfl, f, hp, q⟩⟩
    · rename_i ds e0
      cases ev
      obtain ⟨p, vs, a, f, hp, q, b1, _⟩ := R.muD i _ ds e0 rfl
      exact ⟨_, a, k _ _ _ _ (Same.refl _) (R.drop i) ⟨p, vs, rfl, b1 rfl, f, hp, q⟩⟩
    · rename_i d e0
      cases ev
      obtain ⟨v, a, q⟩ := R.val i d e0
      exact ⟨_, a, k _ _ _ _ (Same.refl _) R q⟩
    · cases ev
theorem g_ex {e : IE} {v : Expr} {pos : Pos} (hv : PE X v (rE X.K Γ C.cons e)) (hn : notComp v = true) : PS X (.Expr v pos) (rS X.K Γ C.cons FU (.ex e)) :=
  ps_mono (ps_expr hv (by cases v <;> first | exact absurd hn Bool.false_ne_true | rfl)) fun D σ H ⟨G, F, env, fl, R, ev, k⟩ => by
    obtain ⟨p, e1, ev⟩ := obind ev
    cases ev
    exact ⟨G, F, env, p.1, p.2, R, e1, fun w H1 F1 R1 E1 q1 => k _ _ _ E1.mono R1⟩
theorem g_cond {t : IT} {a b : IB} {z : Expr} {x y : List Stmt} {pos : Pos} (ht : PT X z (rT X.K Γ C.cons t)) (ha : PSs X x (rB X.K Γ C.cons FU a)) (hb : PSs X y (rB X.K Γ C.cons FU b)) : PS X (.If z x y pos) (rS X.K Γ C.cons FU (.cond t a b)) :=
  ps_mono (ps_if ht ha hb) fun D σ H ⟨G, F, env, fl, R, ev, k⟩ => by
    obtain ⟨p, e1, ev⟩ := obind ev
    refine ⟨G, F, env, p.1, p.2, R, e1, fun H1 F1 R1 E1 => ?_⟩
    cases hp : p.1 with
    | true =>
      rw [if_pos hp] at ev
      exact iteT ⟨G, F1, p.2, fl, R1, ev, k.mono E1.mono⟩
    | false =>
      rw [if_neg (by rw [hp]; exact Bool.false_ne_true)] at ev
      exact iteF ⟨G, F1, p.2, fl, R1, ev, k.mono E1.mono⟩
theorem g_for (hC : COk X C Γ n) (hx : X.xe = fun _ _ => False) {g : IG} {it : II} {b : IB} {ws : List Nat} {tg iter : Expr} {body : List Stmt} {pos : Pos} (hi : PI X tg iter (rI X.K Γ C.cons it)) (hg : PG X tg (rG X.K g)) (hb : PSs X body (rB X.K Γ C.cons FU b)) (hf : ∀ x, foldedSetIterable iter X.env x = pure x) :
    PS X (.For tg iter body [] pos) (rS X.K Γ C.cons FU (.for g it b ws)) := by
  refine ps_mono (ps_for (by rw [hx]; exact PassesOwn.never) hC.calm hi hg hb hf) fun D σ H ⟨G, F, env, fl, R, ev, k⟩ => ?_
  obtain ⟨p, e1, ev⟩ := obind ev
  refine ⟨G, F, env, p.1, p.2, R, e1, fun J H1 F1 R1 E1 wd => ?_⟩
  obtain ⟨Gd, Y, wk, wG, wY⟩ := wd.ex
  refine for_it wk (fun i σ2 H2 => ∃ F2 en, Rel X.K G σ2 H2 F2 en ∧ Same F1 F2 ∧ forD (fun d en => (runG g d en).bind fun en1 => (runB Γ C.cons FU b en1).bind fun f => some (wipF ws f)) (p.1.drop i) en = some fl) ⟨F1, wipeS p.2 ws, R1.wipS ws, Same.refl _, ev⟩ ?_ ?_ ?_
  · rintro i σ2 H2 _ ⟨F2, en, R2, m2, _⟩
    exact wG H2 (m2.trans R2.sub)
  · rintro i x σ2 H2 H3 hi2 ⟨F2, en, R2, m2, hc⟩ y
    obtain ⟨F3, m1, m3, m4, nf, fr, d, hd, qd⟩ := wY i H2 x H3 F2 hi2 y m2 R2.sub
    obtain ⟨R3, E3⟩ := R2.grow m1 m3 m4 nf fr
    have hdr : p.1.drop i = d :: p.1.drop (i + 1) := by
      rw [List.drop_eq_getElem_cons hi2]
      rw [List.getElem?_eq_getElem hi2] at hd
      cases hd
      rfl
    rw [hdr] at hc
    obtain ⟨f0, hf2, hc⟩ := obind hc
    obtain ⟨en1, eg, eb0⟩ := obind hf2
    obtain ⟨f, eb, ef0⟩ := obind eb0
    clear eb0
    cases ef0
    refine ⟨G, F3, en, d, en1, R3, qd, eg, fun σ4 R4 _ _ _ => ⟨G, F3, en1, f, R4, eb, ?_⟩⟩
    cases f with
    | nx e => exact fun σ5 H5 F5 m5 R5 => ⟨F5, wipeS e ws, R5.wipS ws, (m2.trans m1).trans m5, hc⟩
    | ct e => exact fun σ5 H5 F5 m5 R5 => ⟨F5, wipeS e ws, R5.wipS ws, (m2.trans m1).trans m5, hc⟩
    | bk e =>
      cases hc
      exact fun σ5 H5 F5 m5 R5 => k σ5 H5 F5 (((E1.mono.trans m2).trans m1).trans m5) (R5.wipS ws)
    | rt r e =>
      cases hc
      exact fun v σ5 H5 F5 m5 R5 q5 => k v σ5 H5 F5 (((E1.mono.trans m2).trans m1).trans m5) R5 q5
  · rintro σ2 H2 ⟨F2, en, R2, m2, hc⟩
    rw [List.drop_length] at hc
    cases hc
    exact k σ2 H2 F2 (E1.mono.trans m2) R2
theorem g_wh (hx : X.xe = fun _ _ => False) {t : IT} {b : IB} {ws : List Nat} {z : Expr} {body : List Stmt} {pos : Pos} (ht : PT X z (rT X.K Γ C.cons t)) (hb : PSs X body (rB X.K Γ C.cons FU b)) : PS X (.While z body [] pos) (rS X.K Γ C.cons FU (.wh t b ws)) := by
  refine ps_mono (ps_while (by rw [hx]; exact PassesOwn.never) ht hb) fun D σ H ⟨G, F, env, fl, R, ev, k⟩ => ?_
  refine ⟨fun m σ2 H2 => ∃ F2 en, Rel X.K G σ2 H2 F2 en ∧ Same F F2 ∧ whileD (fun en => runT Γ C.cons t en) (fun en => (runB Γ C.cons FU b en).bind fun f => some (wipF ws f)) m en = some fl, ⟨FU, F, wipeS env ws, R.wipS ws, Same.refl _, ev⟩, ?_⟩
  rintro m σ2 H2 ⟨F2, en, R2, m2, hc⟩
  cases m with
  | zero => cases hc
  | succ m =>
    obtain ⟨p, e1, hc⟩ := obind hc
    refine ⟨G, F2, en, p.1, p.2, R2, e1, fun H3 F3 R3 E3 => ?_⟩
    cases hp : p.1 with
    | false =>
      rw [if_neg (by rw [hp]; exact Bool.false_ne_true)] at hc
      cases hc
      exact iteF (k σ2 H3 F3 (m2.trans E3.mono) R3)
    | true =>
      rw [if_pos hp] at hc
      obtain ⟨f0, ef1, hc⟩ := obind hc
      obtain ⟨f, ef, ef0⟩ := obind ef1
      clear ef1
      cases ef0
      refine iteT ⟨_, fun σ' H' w => ⟨m, Nat.lt_succ_self m, w⟩, G, F3, p.2, f, R3, ef, ?_⟩
      cases f with
      | nx e => exact fun σ5 H5 F5 m5 R5 => ⟨F5, wipeS e ws, R5.wipS ws, (m2.trans E3.mono).trans m5, hc⟩
      | ct e => exact fun σ5 H5 F5 m5 R5 => ⟨F5, wipeS e ws, R5.wipS ws, (m2.trans E3.mono).trans m5, hc⟩
      | bk e =>
        cases hc
        exact fun σ5 H5 F5 m5 R5 => k σ5 H5 F5 ((m2.trans E3.mono).trans m5) (R5.wipS ws)
      | rt r e =>
        cases hc
        exact fun v σ5 H5 F5 m5 R5 q5 => k v σ5 H5 F5 ((m2.trans E3.mono).trans m5) R5 q5
theorem b_nil : PSs X [] (rB X.K Γ C.cons FU .nil) := pss_mono pss_nil fun D σ H ⟨G, F, env, fl, R, ev, k⟩ => by
  cases ev
  exact k σ H F (Same.refl _) R
theorem b_cons {s : IS} {r : IB} {z : Stmt} {zs : List Stmt} (h1 : PS X z (rS X.K Γ C.cons FU s)) (h2 : PSs X zs (rB X.K Γ C.cons FU r)) : PSs X (z :: zs) (rB X.K Γ C.cons FU (.cons s r)) :=
  pss_mono (pss_cons h1 h2) fun D σ H ⟨G, F, env, fl, R, ev, k⟩ => by
    obtain ⟨f, e1, ev⟩ := obind ev
    refine ⟨G, F, env, f, R, e1, ?_⟩
    cases f with
    | nx e => exact fun σ' H' F' m R' => ⟨G, F', e, fl, R', ev, k.mono m⟩
    | bk e =>
      cases ev
      exact k
    | ct e =>
      cases ev
      exact k
    | rt r e =>
      cases ev
      exact k
end
theorem notT {b : Bool} (h : (!b) = true) : b = false := by
  cases b with
  | true => exact absurd h Bool.false_ne_true
  | false => rfl
mutual
theorem sS {C : Cfg} {Γ : Tab} {n FU : Nat} {X : Cx} {S : Sc} (hC : COk X C Γ n) (hS : SOk X S) (hx : X.xe = fun _ _ => False) : ∀ (s : IS) (z : Stmt), chkS C S s z = true → PS X z (rS X.K Γ C.cons FU s)
  | .set i e, z, h => by
    unfold chkS at h
    split at h
    · obtain ⟨h1, h2, h3⟩ := and3 h
      exact g_set hC hS h1 h2 (notT h3)
    · cases h
  | .tgt gs e, z, h => by
    unfold chkS at h
    split at h
    · obtain ⟨h1, h2, h3⟩ := and3 h
      exact g_tgt hC hS h1 h2 (by simpa using h3)
    · cases h
  | .par2 i j a b, z, h => by
    unfold chkS at h
    split at h
    · obtain ⟨h, h11⟩ := and2 h
      obtain ⟨h, h10⟩ := and2 h
      obtain ⟨h, h9⟩ := and2 h
      obtain ⟨h, h8⟩ := and2 h
      obtain ⟨h, h7⟩ := and2 h
      obtain ⟨h, h6⟩ := and2 h
      obtain ⟨h, h5⟩ := and2 h
      obtain ⟨h, h4⟩ := and2 h
      obtain ⟨h1, h2, h3⟩ := and3 h
      exact g_par2 hC hS (by rw [hC.N]; exact of_decide_eq_true h1) (by rw [hC.N]; exact of_decide_eq_true h2) (of_decide_eq_true h3) (of_decide_eq_true h4) (of_decide_eq_true h5) (of_decide_eq_true h6) (notT h7) (notT h8) (of_decide_eq_true h9) h10 h11
    · cases h
  | .par3 i j l a b c, z, h => by
    unfold chkS at h
    split at h
    · obtain ⟨h, g17⟩ := and2 h
      obtain ⟨h, g16⟩ := and2 h
      obtain ⟨h, g15⟩ := and2 h
      obtain ⟨h, g14⟩ := and2 h
      obtain ⟨h, g13⟩ := and2 h
      obtain ⟨h, g12⟩ := and2 h
      obtain ⟨h, g11⟩ := and2 h
      obtain ⟨h, g10⟩ := and2 h
      obtain ⟨h, g9⟩ := and2 h
      obtain ⟨h, g8⟩ := and2 h
      obtain ⟨h, g7⟩ := and2 h
      obtain ⟨h, g6⟩ := and2 h
      obtain ⟨h, g5⟩ := and2 h
      obtain ⟨h, g4⟩ := and2 h
      obtain ⟨g1, g2, g3⟩ := and3 h
      exact g_par3 hC hS (by rw [hC.N]; exact of_decide_eq_true g1) (by rw [hC.N]; exact of_decide_eq_true g2) (by rw [hC.N]; exact of_decide_eq_true g3) (of_decide_eq_true g4) (of_decide_eq_true g5) (of_decide_eq_true g6) (of_decide_eq_true g7) (of_decide_eq_true g8)
        (of_decide_eq_true g9) (of_decide_eq_true g10) (of_decide_eq_true g11) (notT g12) (notT g13) (of_decide_eq_true g14) g15 g16 g17
    · cases h
  | .parn is es, z, h => by
    unfold chkS at h
    split at h
    · obtain ⟨h, h4⟩ := and2 h
      obtain ⟨h1, h2, h3⟩ := and3 h
      exact g_parn hC hS h1 h2 (of_decide_eq_true h3) (by simpa using h4)
    · cases h
  | .six i k e, z, h => by
    unfold chkS at h
    split at h
    · obtain ⟨h1, h2, h3⟩ := and3 h
      exact g_six hC hS h1 h2 h3
    · cases h
  | .aug i op e, z, h => by
    unfold chkS at h
    split at h
    · obtain ⟨h1, h2, h3⟩ := and3 h
      cases of_decide_eq_true h2
      exact g_aug hC hS h1 h3
    · cases h
  | .aix i k op e, z, h => by
    unfold chkS at h
    split at h
    · obtain ⟨h, h4⟩ := and2 h
      obtain ⟨h1, h2, h3⟩ := and3 h
      cases of_decide_eq_true h3
      exact g_aix hC hS h1 h2 h4
    · cases h
  | .ret e, z, h => by
    unfold chkS at h
    split at h
    · exact g_ret ((sE e hC hS _ _ h).1 _ rfl)
    · cases h
  | .retx i, z, h => by
    unfold chkS at h
    split at h
    · exact g_retx hC hS h
    · cases h
  | .retn, z, h => by
    unfold chkS at h
    split at h
    · exact ps_mono ps_retN fun D σ H ⟨G, F, env, fl, R, ev, k⟩ => by
        cases ev
        exact k _ _ _ _ (Same.refl _) R .non
    · cases h
  | .ex e, z, h => by
    unfold chkS at h
    split at h
    · obtain ⟨h1, h2⟩ := and2 h
      exact g_ex ((sE e hC hS _ _ h1).1 _ rfl) h2
    · cases h
  | .cond t a b, z, h => by
    unfold chkS at h
    split at h
    · obtain ⟨h1, h2, h3⟩ := and3 h
      exact g_cond ((sT t hC hS _ _ h1).1 _ rfl) (sB hC hS hx a _ h2) (sB hC hS hx b _ h3)
    · cases h
  | .for g it b ws, z, h => by
    unfold chkS at h
    split at h
    · obtain ⟨h1, h2, h3⟩ := and3 h
      exact g_for hC hx (sI it hC hS _ _ h1) (sG hC hS g _ h2) (sB hC hS hx b _ h3) (fun x => chkI_folded it h1 X.env x)
    · cases h
  | .wh t b ws, z, h => by
    unfold chkS at h
    split at h
    · obtain ⟨h1, h2⟩ := and2 h
      exact g_wh hx ((sT t hC hS _ _ h1).1 _ rfl) (sB hC hS hx b _ h2)
    · cases h
  | .brk, z, h => by
    unfold chkS at h
    split at h
    · exact ps_mono ps_break fun D σ H ⟨G, F, env, fl, R, ev, k⟩ => by
        cases ev
        exact k _ _ _ (Same.refl _) R
    · cases h
  | .cnt, z, h => by
    unfold chkS at h
    split at h
    · exact ps_mono ps_continue fun D σ H ⟨G, F, env, fl, R, ev, k⟩ => by
        cases ev
        exact k _ _ _ (Same.refl _) R
    · cases h
  | .pass, z, h => by
    unfold chkS at h
    split at h
    · exact ps_mono ps_pass fun D σ H ⟨G, F, env, fl, R, ev, k⟩ => by
        cases ev
        exact k _ _ _ (Same.refl _) R
    · cases h
  | .dput i c e, z, h => by
    unfold chkS at h
    split at h
    · obtain ⟨h1, h2, h3⟩ := and3 h
      exact g_dput hC hS h1 h2 h3
    · cases h
  | .nev, z, h => ps_mono ps_never fun D σ H ⟨G, F, env, fl, R, ev, k⟩ => by cases ev
theorem sB {C : Cfg} {Γ : Tab} {n FU : Nat} {X : Cx} {S : Sc} (hC : COk X C Γ n) (hS : SOk X S) (hx : X.xe = fun _ _ => False) : ∀ (b : IB) (zs : List Stmt), chkB C S b zs = true → PSs X zs (rB X.K Γ C.cons FU b)
  | .nil, zs, h => by
    cases zs with
    | nil => exact b_nil
    | cons _ _ => exact absurd h Bool.false_ne_true
  | .cons s r, zs, h => by
    cases zs with
    | nil => exact absurd h Bool.false_ne_true
    | cons z zs =>
      obtain ⟨h1, h2⟩ := and2 h
      exact b_cons (sS hC hS hx s z h1) (sB hC hS hx r zs h2)
end
end PF

/-! PF13: a def of the text does what runFn tells; the whole program; the law's end. -/
namespace PF
open PySem PySem.Spec PyProof.Rows L2
/-- the names, the parameters first -/
def scopeOk (N ps : List Str) (sc : Scope) : Bool :=
  decide (sc.kind = .function) && !sc.isCoroutine && !sc.isGenerator && decide N.Nodup && decide (N.take ps.length = ps) && (ps.all fun x => match sc.names.lookup x with
    | some .local => true
    | some .cell => true
    | _ => false) && (sc.names.all fun y => decide (y.2 ≠ .free))
theorem scope_of {N ps : List Str} {sc : Scope} (h : scopeOk N ps sc = true) : FnScope N ps sc := by
  unfold scopeOk at h
  obtain ⟨h, h7⟩ := and2 h
  obtain ⟨h, h6⟩ := and2 h
  obtain ⟨h, h5⟩ := and2 h
  obtain ⟨h, h4⟩ := and2 h
  obtain ⟨h1, h2, h3⟩ := and3 h
  refine ⟨of_decide_eq_true h1, notT h2, notT h3, of_decide_eq_true h4, of_decide_eq_true h5, fun x hx => ?_, fun y hy => of_decide_eq_true (List.all_eq_true.mp h7 y hy)⟩
  have := List.all_eq_true.mp h6 x hx
  split at this
  · exact .inl (by assumption)
  · exact .inr (by assumption)
  · cases this
def plainArgs (ps : List Str) (a : Arguments) : Bool := a.posonlyargs.isEmpty && decide (a.args.map (·.arg) = ps) && a.vararg.isNone && a.kwonlyargs.isEmpty && a.kw_defaults.isEmpty && a.kwarg.isNone && a.defaults.isEmpty
/-- a def of the text is this one of the small language -/
def chkD (fns : List Str) (cons : List (Str × PyData)) (f : Fn) (st : Stmt) : Bool :=
  scopeOk f.N f.ps (defScope st) && chkB ⟨f.N, fns, cons⟩ ⟨defScope st, fun _ => true⟩ f.body (defBody st)
section
variable {K : PySem.W.Frag}
theorem start_at {vs : List V} {as : List Sl} {m : Nat} (i : Nat) : (startE m as).at i = as[i]? := by
  unfold startE En.at
  rw [List.getElem?_append, List.length_map]
  split
  · rename_i h
    rw [List.getElem?_map, List.getElem?_eq_getElem h]
    rfl
  · rename_i h
    rw [List.getElem?_replicate, List.getElem?_eq_none (by omega)]
    split <;> rfl
theorem paired_get' {α β : Type} {R : α → β → Prop} : ∀ {l : List α} {m : List β} {i : Nat} {b : β}, Paired R l m → m[i]? = some b → ∃ a, l[i]? = some a ∧ R a b
  | _, _, _, _, .nil, h => by simp at h
  | _, _, 0, _, .cons a t, h => by
    cases h
    exact ⟨_, rfl, a⟩
  | _, _, i + 1, b, .cons a t, h => by
    obtain ⟨x, e, q⟩ := paired_get' (i := i) t (by simpa using h)
    exact ⟨x, by simpa using e, q⟩
theorem outA_at : ∀ (as : List Sl) (env : En) (l : List PyData), outA as env = some l → ∀ i d, as[i]? = some (.b d) → (∀ (i j : Nat) (d e : List PyData), as[i]? = some (.b d) → as[j]? = some (.b e) → i = j) → env.at i = some (.b l)
  | [], _, _, _, i, d, h, _ => by simp at h
  | .v z :: r, env, l, e, i, d, h, u => by
    cases i with
    | zero => cases h
    | succ i =>
      have := outA_at r env.tail l e i d h fun i j d e a b => by
        have := u (i + 1) (j + 1) d e a b
        omega
      unfold En.at at this ⊢
      rw [List.getElem?_tail] at this
      exact this
  | .o _ :: _, _, _, e, _, _, _, _ => by cases e
  | .b z :: r, env, l, e, i, d, h, u => by
    have h0 := u 0 i z d rfl h
    subst h0
    have e : (match (env.head?).join with
      | some (.b ds) => some ds
      | _ => none) = some l := e
    split at e
    · rename_i ds hd
      cases e
      unfold En.at
      rw [← List.head?_eq_getElem?]
      exact hd
    · cases e
end
/-- THE DEF: it does what runFn tells -/
theorem fn_G {P : Program} {w : World} {K : PySem.W.Frag} {mg : Str → Option Value} {base : Heap} {fns : List Str} {cons : List (Str × PyData)} {f : Fn} {st : Stmt} {qual : Str} {a : Addr} {fd : FuncData} {Γ : Tab} {n FU : Nat}
    (FF : Fun K f.name qual st a fd) (hc : chkD fns cons f st = true) (hblt : ∀ x ∈ blts, mg x = none) (hcons : ∀ x d, cons.lookup x = some d → ∃ u v, mg x = some u ∧ RelV v u ∧ ∀ F, Dq K F v d)
    (hfns : ∀ g x, fns[g]? = some x → ∃ b, mg x = some (.ref b) ∧ FnP P w K mg base n b (Γ g)) :
    FnG P w K mg base (n + 1) a fd f.ps (runFn Γ cons FU f) := by
  unfold chkD at hc
  obtain ⟨hc1, hc2⟩ := and2 hc
  have SC := scope_of hc1
  obtain ⟨oc, od, kV, doc, pm, an, cdv, ct, osl, rfl, lk, hcd⟩ := FF.ex
  have hlen : ∀ as r, runFn Γ cons FU f as = some r → as.length = f.ps.length := fun as r e => by
    unfold runFn at e
    exact (oite e).1
  refine ⟨hlen, fun A outer s H args us vs Q hr hg e0 hb rv hsp => ?_⟩
  obtain ⟨F, as, r, l, sm, en, pa, uni, eg, post⟩ := hsp
  have hl : vs.length = f.ps.length := by rw [paired_len pa, hlen as _ eg]
  have KX : K.In s.heap := e0.mod.kin.keeps fun b o e => (e0.bs b o e).1
  have lim : s.heap.NoLimit := e0.mod.nolimit.keeps fun b o e => (e0.bs b o e).1
  have hkind : ∀ y ∈ f.ps.zip us, (defScope st).names.lookup y.1 = some .local ∨ ((defScope st).names.lookup y.1 = some .cell ∧ ((cellsFrom (s.heap.objs.size + 1) (defScope st).names []).lookup y.1).isSome = true) := fun ⟨m, v⟩ hy => by
    rcases SC.par m (List.of_mem_zip hy).1 with q | q
    · exact .inl q
    · exact .inr ⟨q, PySem.W.cellsFrom_some _ _ _ (.inl q)⟩
  refine codeAny_call_function hr.depth (KX _ _ lk) rfl SC.co SC.gen rfl (PySem.W.codeRec_of KX hcd) (hb _ _ _ _ ?_)
  refine wpAny_newFunctionEnv_cells SC.kind hkind fun env he s1 x => ?_
  subst he
  refine ⟨lim.keeps x.toInCall.keep, codeAny_func ?_⟩
  have I : L2.Inv (cxOf CX0 P w K mg base f.N qual (defScope st) a cdv A outer s H E0) [] (L2.start f.N vs) H s1 := inv_start SC hr.hd e0 hl rv x
  -- the context without exceptions
  have hC : COk (cxOf CX0 P w K mg base f.N qual (defScope st) a cdv A outer s H E0).nox ⟨f.N, fns, cons⟩ Γ n :=
    ⟨rfl, rfl, SC.nd, hr.deeper _, hg, hblt, hcons, hfns⟩
  have hS : SOk (cxOf CX0 P w K mg base f.N qual (defScope st) a cdv A outer s H E0).nox ⟨defScope st, fun _ => true⟩ := ⟨rfl, fun _ _ => rfl⟩
  have body := (sB (FU := FU) hC hS rfl f.body (defBody st) hc2).nox
  -- the entry
  unfold runFn at eg
  obtain ⟨hal, eg⟩ := oite eg
  obtain ⟨fl, ef, eg⟩ := obind eg
  have hps : f.ps.length ≤ f.N.length := by
    have := congrArg List.length SC.pre
    rw [List.length_take] at this
    omega
  have hσ : ∀ (i : Nat) (v : V), vs[i]? = some v → (L2.start f.N vs)[i]? = some (some v) := fun i v e => by
    have hi : i < vs.length := (List.getElem?_eq_some_iff.mp e).1
    unfold L2.start
    rw [List.getElem?_append_left (by rw [List.length_map]; exact hi), List.getElem?_map, e]
    rfl
  have R : Rel K ⟨H, F, fun i p => ∃ d, as[i]? = some (.b d) ∧ vs[i]? = some (.ref p)⟩ (L2.start f.N vs) H F (startE f.N.length as) := by
    refine ⟨?_, sm, Same.refl _, fun b o e _ _ => e, fun b e => e, fun b e => .inl e, fun i d e => ?_, fun i t ds e hm => ?_, fun i j p ne z1 z2 _ _ => ?_, Tm.refl _, en.start⟩
    · unfold startE L2.start
      rw [List.length_append, List.length_map, List.length_replicate, List.length_append, List.length_map, List.length_replicate, paired_len pa]
    · rw [start_at (vs := vs)] at e
      obtain ⟨v, ev, q⟩ := paired_get' pa e
      exact ⟨v, hσ i v ev, q⟩
    · rw [start_at (vs := vs)] at e
      obtain ⟨v, ev, q⟩ := paired_get' pa e
      cases t with
      | v d => cases hm
      | o ds => exact q.elim
      | w ds => exact q.elim
      | b ds =>
        cases hm
        obtain ⟨p, ws, rfl, q1, q2, q3⟩ := q
        exact ⟨p, .lst ws, hσ i _ ev, q1, q2, q3, fun z => absurd z.symm Bool.false_ne_true, fun _ => ⟨_, e, ev⟩⟩
    · obtain ⟨t1, d1, e1, m1⟩ := z1
      obtain ⟨t2, d2, e2, m2⟩ := z2
      rw [start_at (vs := vs)] at e1 e2
      have isb : ∀ (i : Nat) (t : Sl) (d : Ob), as[i]? = some t → t.m = some d → ∃ d, as[i]? = some (.b d) := fun i t d e m => by
        obtain ⟨v, _, q⟩ := paired_get' pa e
        cases t with
        | v _ => cases m
        | o _ => exact q.elim
        | w _ => exact q.elim
        | b d => exact ⟨d, e⟩
      obtain ⟨d1, b1⟩ := isb i t1 d1 e1 m1
      obtain ⟨d2, b2⟩ := isb j t2 d2 e2 m2
      exact ne (uni i j d1 d2 b1 b2)
  -- the end
  have fin : ∀ (r' : Sl) (env' : En) (v : V) (σ' : L2.St) (H' F' : Hp), (outA as env').bind (fun l => some (r', l)) = some (r, l) → Same F F' → Rel K ⟨H, F, fun i p => ∃ d, as[i]? = some (.b d) ∧ vs[i]? = some (.ref p)⟩ σ' H' F' env' →
      RT K ⟨H, F, fun i p => ∃ d, as[i]? = some (.b d) ∧ vs[i]? = some (.ref p)⟩ H' F' v r' → Q v H' := fun r' env' v σ' H' F' eo m R' q => by
    obtain ⟨l', ho, eo⟩ := obind eo
    cases eo
    refine post v H' F' ⟨m, R'.sub, fun b o e nt n => R'.fro b o e nt fun i ⟨d, z1, z2⟩ => n ⟨i, d, z1, z2⟩, R'.live, R'.new, ?_, fun p ⟨i, d, z1, z2⟩ => ?_, R'.tabs⟩
    · cases r with
      | v d => exact q
      | b ds => exact q
      | o ds => exact q
      | w ds => exact q
    · have hb' := outA_at as env' l ho i d z1 uni
      obtain ⟨p', ws, _, q1, q2, q3, _, q4⟩ := R'.mu i _ l hb' rfl
      obtain ⟨d', _, z3⟩ := q4 rfl
      rw [z2] at z3
      cases z3
      exact ⟨q1, ws, q2, q3⟩
  have ends : EndOk K ⟨H, F, fun i p => ∃ d, as[i]? = some (.b d) ∧ vs[i]? = some (.ref p)⟩ F { nx := fun _ H' => Q .non H', rt := Q } fl := by
    cases fl with
    | nx e => exact fun σ' H' F' m R' => fin _ e .non σ' H' F' eg m R' .non
    | rt r' e => exact fun v σ' H' F' m R' q => fin r' e v σ' H' F' eg m R' q
    | bk e => cases eg
    | ct e => cases eg
  refine wpAny_mono (body.run [] s1 (L2.start f.N vs) H _ I ⟨_, F, _, fl, R, ef, ends⟩) (fun fl s' hs => ?_) fun e s' hs => hs
  have back : ∀ {σ' : L2.St} {H' : Hp} {v : V} {u : Value}, L2.Inv (cxOf CX0 P w K mg base f.N qual (defScope st) a cdv A outer s H E0) [] σ' H' s' → RelV v u → Q v H' → CE outer P w H s Q u s' :=
    fun {σ' H' v u} J rv q => ⟨v, H', J.os, J.bare, J.base, J.hok, rv, q⟩
  cases fl with
  | ret u =>
    obtain ⟨v, σ', H', J, rv, q⟩ := hs
    exact back J rv q
  | next =>
    obtain ⟨σ', H', J, q⟩ := hs
    exact back (v := V.non) (u := Value.none) J rfl q
  | brk =>
    obtain ⟨_, _, _, q⟩ := hs
    exact False.elim q
  | cont =>
    obtain ⟨_, _, _, q⟩ := hs
    exact False.elim q
end PF

/-! PTH: a list that a def hands out is new, where nothing that it was given holds a list. -/
namespace PF
open PySem PySem.Spec PyProof.Rows L2
def noLB (K : PySem.W.Frag) : Bool := K.all fun x => !(x.2.cls == .type "list")
/-- no list is written in the module's part -/
def NoL (K : PySem.W.Frag) : Prop := ∀ p its n, K.lookup p ≠ some { cls := .type "list", data := .seq its n }
theorem lookup_mem {α β : Type} [BEq α] [LawfulBEq α] : ∀ {l : List (α × β)} {a : α} {b : β}, l.lookup a = some b → (a, b) ∈ l
  | [], _, _, h => by cases h
  | (x, y) :: r, a, b, h => by
    rw [List.lookup_cons] at h
    split at h
    · rename_i e
      cases h
      rw [eq_of_beq e]
      exact List.mem_cons_self
    · exact List.mem_cons_of_mem _ (lookup_mem h)
theorem noL_of {K : PySem.W.Frag} (h : noLB K = true) : NoL K := fun p its n e => by
  have := List.all_eq_true.mp h _ (lookup_mem e)
  have z : (!((Value.type "list") == Value.type "list")) = true := this
  rw [beq_self_eq_true] at z
  cases z
/-- no list, frozen or not -/
def NLi (o : HO) : Prop := (∀ vs, o ≠ .lst vs) ∧ NL o
section
variable {K : PySem.W.Frag}
mutual
theorem dqN {F F' : Hp} (t : ∀ p u, F p = some u → NLi u → F' p = some u) : ∀ (d : PyData) {v : V}, nls d = true → Dq K F v d → Dq K F' v d
  | .none, _, _, h => by
    cases h
    exact .non
  | .bool b, _, _, h => by
    cases h
    exact .bl b
  | .int i, _, _, h => by
    cases h
    exact .int i
  | .str x, _, _, h => by
    cases h
    exact .str x
  | .list ds, _, z, _ => by
    unfold nls at z
    cases z
  | .tuple ds, _, z, h => by
    unfold nls at z
    cases h with
    | tup h1 h2 =>
      refine .tup ?_ (dqAllN t ds z h2)
      rcases h1 with (h1 | ⟨o, h1⟩) | h1
      · exact .inl (.inl (t _ _ h1 ⟨fun _ e => (by cases e), fun _ _ e => (by cases e)⟩))
      · exact .inl (.inr ⟨o, t _ _ h1 ⟨fun _ e => (by cases e), fun _ _ e => (by cases e)⟩⟩)
      · exact .inr h1
  | .dict es, _, z, h => by
    unfold nls at z
    cases h with
    | dct h1 h2 =>
      refine .dct ?_ (dqKVN t es z h2)
      rcases h1 with h1 | ⟨o, h1⟩
      · exact .inl (t _ _ h1 ⟨fun _ e => (by cases e), fun _ _ e => (by cases e)⟩)
      · exact .inr ⟨o, t _ _ h1 ⟨fun _ e => (by cases e), fun _ _ e => (by cases e)⟩⟩
    | fnc h1 => exact .fnc h1
theorem dqAllN {F F' : Hp} (t : ∀ p u, F p = some u → NLi u → F' p = some u) : ∀ (ds : List PyData) {vs : List V}, nlsA ds = true → DqAll K F vs ds → DqAll K F' vs ds
  | [], _, _, h => by
    cases h
    exact .nil
  | d :: ds, _, z, h => by
    unfold nlsA at z
    rw [Bool.and_eq_true] at z
    cases h with
    | cons h1 h2 => exact .cons (dqN t d z.1 h1) (dqAllN t ds z.2 h2)
theorem dqKVN {F F' : Hp} (t : ∀ p u, F p = some u → NLi u → F' p = some u) : ∀ (es : List (PyData × PyData)) {ps : List (L2.Key × V)}, nlsK es = true → DqKV K F ps es → DqKV K F' ps es
  | [], _, _, h => by
    cases h
    exact .nil
  | (_, e) :: es, _, z, h => by
    unfold nlsK at z
    rw [Bool.and_eq_true] at z
    cases h with
    | cons h0 h1 h2 => exact .cons h0 (dqN t e z.1 h1) (dqKVN t es z.2 h2)
end
/-- the frozen part less its lists -/
noncomputable def lessL (F : Hp) : Hp := fun b => match F b with
  | some (.lst _) => none
  | some (.frz _ (.lst _)) => none
  | x => x
theorem lessL_of {F : Hp} {b : Addr} {o : HO} (h : F b = some o) (n : NLi o) : lessL F b = some o := by
  unfold lessL
  rw [h]
  split
  · rename_i e
    cases e
    exact absurd rfl (n.1 _)
  · rename_i e
    cases e
    exact absurd rfl (n.2 _ _)
  · rfl
theorem lessL_some {F : Hp} {b : Addr} {o : HO} (h : lessL F b = some o) : F b = some o ∧ NLi o := by
  unfold lessL at h
  split at h
  · cases h
  · cases h
  · rename_i h1 h2
    exact ⟨h, fun vs e => h1 vs (by rw [h, e]), fun x vs e => h2 x vs (by rw [h, e])⟩
theorem lessL_none {F : Hp} {b : Addr} (h : F b = none) : lessL F b = none := by
  cases e : lessL F b with
  | none => rfl
  | some o =>
    rw [(lessL_some e).1] at h
    cases h
theorem args_thaw {F H : Hp} : ∀ {vs : List V} {as : List Sl}, plainAs as = true → (as.all fun s => nls s.d) = true → Paired (ArgR K F H) vs as → Paired (ArgR K (lessL F) H) vs as
  | _, [], _, _, .nil => .nil
  | _, .v d :: r, h, z, .cons a t => by
    rw [List.all_cons, Bool.and_eq_true] at z
    exact .cons (dqN (fun p u e n => lessL_of e n) d z.1 a) (args_thaw h z.2 t)
  | _, .o _ :: _, h, _, _ => by cases h
  | _, .b _ :: _, h, _, _ => by cases h
  | _, .w _ :: _, h, _, _ => by cases h
theorem plain_at : ∀ {as : List Sl} {i : Nat} {d : List PyData}, plainAs as = true → as[i]? = some (.b d) → False
  | [], i, d, _, e => by simp at e
  | .v _ :: r, 0, d, _, e => by cases e
  | .v _ :: r, i + 1, d, h, e => plain_at (as := r) (i := i) h (by simpa using e)
  | .o _ :: _, _, _, h, _ => by cases h
  | .b _ :: _, _, _, h, _ => by cases h
  | .w _ :: _, _, _, h, _ => by cases h
theorem spF_thaw (hK : NoL K) {g : DefG} {vs : List V} {H : Hp} {Q : VK} (h : spF K (fun as => thwD as (g as)) vs H Q) : spF K g vs H Q := by
  obtain ⟨F, as, r, l, sm, en, pa, uni, eg, post⟩ := h
  have eg : thwD as (g as) = some (r, l) := eg
  cases e : g as with
  | none =>
    rw [e] at eg
    cases eg
  | some q =>
    obtain ⟨r0, l0⟩ := q
    rw [e] at eg
    by_cases hl : ∃ ds, r0 = .v (.list ds)
    · obtain ⟨ds, rfl⟩ := hl
      have eg : (if plainAs as = true ∧ (as.all fun s => nls s.d) = true ∧ nlsA ds = true then some (Sl.o ds, l0) else none) = some (r, l) := eg
      obtain ⟨⟨hp, ha, hd⟩, eg⟩ := oite eg
      cases eg
      refine ⟨lessL F, as, _, _, fun b o z => sm b o (lessL_some z).1, ⟨en.1, fun P q z => lessL_none (en.2 P q z)⟩, args_thaw hp ha pa, uni, e, fun v H' F' P => ?_⟩
      have nolent : ∀ b, ¬ LentAt vs as b := fun b ⟨i, d, z, _⟩ => plain_at hp z
      cases P.res with
      | @lst p ws _ h1 h2 =>
        have hm0 : ∀ {u : HO}, F' p = some u → ¬ NLi u → H p = none := fun {u} e1 n1 => by
          rcases P.fresh p (by rw [e1]; simp) with z | z
          · cases e2 : lessL F p with
            | none => exact absurd e2 z
            | some o =>
              have e3 := P.mono p o e2
              rw [e1] at e3
              cases e3
              exact absurd (lessL_some e2).2 n1
          · exact z
        have hF' : F' p = some (.lst ws) ∧ H p = none := by
          rcases h1 with (h1 | ⟨o, h1⟩) | ⟨its, n, h1, _⟩
          · exact ⟨h1, hm0 h1 fun z => z.1 _ rfl⟩
          · have a := hm0 h1 fun z => z.2 _ _ rfl
            have b := P.tabs.2 p o ws (P.sub _ _ h1)
            rw [a] at b
            cases b
          · exact absurd h1 (hK _ _ _)
        obtain ⟨hF', hH⟩ := hF'
        have hFp : F p = none := sm.free hH
        have F2 : ∃ F2 : Hp, F2 p = none ∧ ∀ b, b ≠ p → F2 b = (match F b with
          | some o => some o
          | none => F' b) := by
          classical
          exact ⟨fun b => if b = p then none else (match F b with
            | some o => some o
            | none => F' b), if_pos rfl, fun b hb => if_neg hb⟩
        obtain ⟨F2, f1, f2⟩ := F2
        have both : ∀ b o, F b = some o → H' b = some o := fun b o eb => by
          by_cases n : NLi o
          · exact P.sub b o (P.mono b o (lessL_of eb n))
          · refine P.keep b o (sm b o eb) (fun ps z => n ?_) (nolent b)
            subst z
            exact ⟨fun _ y => (by cases y), fun _ _ y => (by cases y)⟩
        have nep : ∀ b o, F b = some o → b ≠ p := fun b o eb y => by
          rw [y, hFp] at eb
          cases eb
        refine post (.ref p) H' F2 ⟨fun b o eb => ?_, fun b o eb => ?_, P.keep, P.live, fun b eb => ?_, ⟨p, ws, rfl, hH, f1, P.sub _ _ hF', dqAllN (fun b u eb n => ?_) ds hd h2⟩, fun q z => absurd z (nolent q), P.tabs⟩
        · rw [f2 b (nep b o eb), eb]
        · by_cases hb : b = p
          · rw [hb, f1] at eb
            cases eb
          · rw [f2 b hb] at eb
            split at eb
            · rename_i o2 e2
              cases eb
              exact both b _ e2
            · exact P.sub b o eb
        · by_cases hb : b = p
          · rw [hb, f1] at eb
            exact absurd rfl eb
          · rw [f2 b hb] at eb
            split at eb
            · rename_i o2 e2
              rw [e2]
              exact .inl (by simp)
            · rcases P.fresh b eb with z | z
              · cases e3 : lessL F b with
                | none => exact absurd e3 z
                | some o =>
                  rw [(lessL_some e3).1]
                  exact .inl (by simp)
              · exact .inr z
        · have hb : b ≠ p := fun y => by
            rw [y, hF'] at eb
            cases eb
            exact n.1 _ rfl
          rw [f2 b hb]
          split
          · rename_i o2 e2
            have q1 := both b o2 e2
            rw [P.sub b u eb] at q1
            exact q1.symm
          · exact eb
    · have eg2 : some (r0, l0) = some (r, l) := by
        rw [← eg]
        unfold thwD
        split
        · rename_i z
          cases z
          exact absurd ⟨_, rfl⟩ hl
        · rfl
      cases eg2
      exact ⟨F, as, _, _, sm, en, pa, uni, e, post⟩
theorem thw_some {as : List Sl} {q : Option (Sl × List PyData)} {r : Sl × List PyData} (h : thwD as q = some r) : ∃ r', q = some r' := by
  cases q with
  | none => cases h
  | some r' => exact ⟨r', rfl⟩
theorem FnG.thaw {P : Program} {w : World} {mg : Str → Option Value} {base : Heap} {n : Nat} {a : Addr} {fd : FuncData} {ps : List Str} {g : DefG} (hK : NoL K) (h : FnG P w K mg base n a fd ps g) : FnG P w K mg base n a fd ps (fun as => thwD as (g as)) :=
  ⟨fun as r e => let ⟨r', e'⟩ := thw_some e; h.len as r' e', fun A outer s H args us vs Q hr hg e0 hb rv sp => h.run A outer s H args us vs Q hr hg e0 hb rv (spF_thaw hK sp)⟩
end
end PF

/-! PF14L: the whole program by its defs, where no def raises, tries or makes a lambda; the law's call. -/
namespace PF
open PySem PySem.Spec PyProof.Rows L2
/-- the check of a def -/
def chkA (fns : List Str) (cons : List (Str × PyData)) (f : Fn) (st : Stmt) : Bool :=
  match f.tr, f.ft, f.hand with
  | none, none, false => chkD fns cons f st
  | _, _, _ => false
def chkR (fns : List Str) (cons : List (Str × PyData)) (f : Fn) (st : Stmt) : Bool :=
  match f.rx, f.alk with
  | none, false => true
  | _, _ => false
/-- no class is named -/
def XcOk (_ : PySem.W.Frag) (_ : Str → Option Value) (_ : Xc) (_ : Addr) : Prop := False
/-- the classes that a def names -/
def clsOf (f : Fn) : List Xc := (match f.rx with
  | some x => [x.cls]
  | none => []) ++ (match f.tr with
  | some t => [t.cls]
  | none => [])
/-- a def as it stands behind the top -/
structure DefAt (K : PySem.W.Frag) (mg : Str → Option Value) (fns : List Str) (cons : List (Str × PyData)) (f : Fn) : Prop where
  ex : ∃ a fd st, mg f.name = some (.ref a) ∧ Fun K f.name f.name st a fd ∧ L2.Binds K fd f.ps [] ∧ chkA fns cons f st = true ∧ chkR fns cons f st = true
  cls : ∀ c ∈ clsOf f, ∃ C, XcOk K mg c C
  tab : ∀ x, f.ft = some x → ∃ c P, PySem.W.tabIn K f.name = some (c, P)
theorem clsOf_none {K : PySem.W.Frag} {mg : Str → Option Value} {f : Fn} (h : clsOf f = []) : ∀ c ∈ clsOf f, ∃ C, XcOk K mg c C := fun c hc => by
  rw [h] at hc
  cases hc
theorem runP_no {cons : List (Str × PyData)} {FU : Nat} {fs : List Fn} {n g : Nat} {f : Fn} (e : fs[g]? = some f) (h : f.tr = none) (h2 : f.ft = none) (h3 : f.thaw = false) : runP cons FU fs (n + 1) g = runFn (runP cons FU fs n) cons FU f := by
  funext as
  show (fs[g]?).bind (fun fn => match fn.tr with
      | none => (match fn.ft with
        | none => if fn.thaw = true then thwD as (runFn (runPX cons FU fs n).1 cons FU fn as) else runFn (runPX cons FU fs n).1 cons FU fn as
        | some x => runFT (runPX cons FU fs n).1 cons FU fn x as)
      | some t => runTD (runPX cons FU fs n).1 (runPX cons FU fs n).2 cons FU fn t as) = _
  rw [e]
  simp only [Option.bind_some, h, h2, h3, Bool.false_eq_true, if_false]
  rfl
theorem runP_th {cons : List (Str × PyData)} {FU : Nat} {fs : List Fn} {n g : Nat} {f : Fn} (e : fs[g]? = some f) (h : f.tr = none) (h2 : f.ft = none) (h3 : f.thaw = true) : runP cons FU fs (n + 1) g = fun as => thwD as (runFn (runP cons FU fs n) cons FU f as) := by
  funext as
  show (fs[g]?).bind (fun fn => match fn.tr with
      | none => (match fn.ft with
        | none => if fn.thaw = true then thwD as (runFn (runPX cons FU fs n).1 cons FU fn as) else runFn (runPX cons FU fs n).1 cons FU fn as
        | some x => runFT (runPX cons FU fs n).1 cons FU fn x as)
      | some t => runTD (runPX cons FU fs n).1 (runPX cons FU fs n).2 cons FU fn t as) = _
  rw [e]
  simp only [Option.bind_some, h, h2, h3, if_true]
  rfl
theorem FnG.mono {P : Program} {w : World} {K : PySem.W.Frag} {mg : Str → Option Value} {base : Heap} {n m : Nat} {a : Addr} {fd : FuncData} {ps : List Str} {g : DefG} (h : FnG P w K mg base n a fd ps g) (l : n ≤ m) : FnG P w K mg base m a fd ps g :=
  ⟨h.len, fun A outer s H args us vs Q hr => h.run A outer s H args us vs Q (hr.mono l)⟩
theorem FnP.mono {P : Program} {w : World} {K : PySem.W.Frag} {mg : Str → Option Value} {base : Heap} {n m : Nat} {a : Addr} {g : DefG} (h : FnP P w K mg base n a g) (l : n ≤ m) : FnP P w K mg base m a g :=
  ⟨h.kp, let ⟨fd, ps, b, G⟩ := h.ex; ⟨fd, ps, b, G.mono l⟩⟩
/-- what is known of the tables of code objects -/
structure TabK (K : PySem.W.Frag) (mg : Str → Option Value) (base : Heap) : Prop where
  kin : K.In base
  ns : base.Ns mainGlobals mg
  tb : ∀ x ∈ lamNames, ∀ c P, PySem.W.tabIn K x = some (c, P) → LamX.TabB base mg c P
  un : ∀ x ∈ lamNames, ∀ y ∈ lamNames, ∀ c d P, PySem.W.tabIn K x = some (c, P) → PySem.W.tabIn K y = some (d, P) → x = y
  nol : NoL K
theorem thaw_pick {P : Program} {w : World} {K : PySem.W.Frag} {mg : Str → Option Value} {base : Heap} {m n g : Nat} {a : Addr} {fd : FuncData} {ps : List Str} {cons : List (Str × PyData)} {FU : Nat} {fs : List Fn} {f : Fn} (hK : NoL K) (ht : f.tr = none) (hf : f.ft = none) (e : fs[g]? = some f)
    (h : FnG P w K mg base m a fd ps (runFn (runP cons FU fs n) cons FU f)) : FnG P w K mg base m a fd ps (runP cons FU fs (n + 1) g) := by
  cases hw : f.thaw with
  | false =>
    rw [runP_no e ht hf hw]
    exact h
  | true =>
    rw [runP_th e ht hf hw]
    exact h.thaw hK
theorem prog_ok {P : Program} {w : World} {K : PySem.W.Frag} {mg : Str → Option Value} {base : Heap} {fs : List Fn} {fns : List Str} {cons : List (Str × PyData)} {FU : Nat} (hn : fns = fs.map (·.name))
    (hd : ∀ f ∈ fs, DefAt K mg fns cons f) (hblt : ∀ x ∈ blts, mg x = none) (hcons : ∀ x d, cons.lookup x = some d → ∃ u v, mg x = some u ∧ RelV v u ∧ ∀ F, Dq K F v d) (hT : TabK K mg base) :
    ∀ (n g : Nat) (x : Str), fns[g]? = some x → ∃ a, mg x = some (.ref a) ∧ FnP P w K mg base (3 * n) a (runP cons FU fs n g) := by
  intro n
  induction n with
  | zero =>
    intro g x hx
    rw [hn, List.getElem?_map] at hx
    cases e : fs[g]? with
    | none =>
      rw [e] at hx
      cases hx
    | some f =>
      rw [e] at hx
      cases hx
      obtain ⟨a, fd, st, h1, h2, h3, h4, h5⟩ := (hd f (List.mem_of_getElem? e)).ex
      have G : FnG P w K mg base 0 a fd f.ps (runP cons FU fs 0 g) := ⟨(fun as r z => by cases z), fun A outer s H args us vs Q hr hg e0 hb rv hsp => by
        obtain ⟨_, _, _, _, _, _, _, _, z, _⟩ := hsp
        cases z⟩
      exact ⟨a, h1, ⟨h2.kp, fd, f.ps, h3, G⟩⟩
  | succ n ih =>
    intro g x hx
    rw [hn, List.getElem?_map] at hx
    cases e : fs[g]? with
    | none =>
      rw [e] at hx
      cases hx
    | some f =>
      rw [e] at hx
      cases hx
      obtain ⟨a, fd, st, h1, h2, h3, h4, h5⟩ := (hd f (List.mem_of_getElem? e)).ex
      have G : FnG P w K mg base (3 * n + 3) a fd f.ps (runP cons FU fs (n + 1) g) := by
        unfold chkA at h4
        cases ht : f.tr with
        | some t =>
          rw [ht] at h4
          cases h4
        | none =>
          cases hft : f.ft with
          | some t =>
            rw [ht, hft] at h4
            cases h4
          | none =>
            cases hh : f.hand with
            | true =>
              rw [ht, hft, hh] at h4
              cases h4
            | false =>
              rw [ht, hft, hh] at h4
              simp only at h4
              refine thaw_pick hT.nol ht hft e ?_
              exact (fn_G (P := P) (w := w) (base := base) (FU := FU) h2 h4 hblt hcons ih).mono (by omega)
      exact ⟨a, h1, ⟨h2.kp, fd, f.ps, h3, G⟩⟩
/-- what the written part says of the tables: none of them is written -/
structure TabW (K : PySem.W.Frag) : Prop where
  out : ∀ x ∈ lamNames, ∀ c P, PySem.W.tabIn K x = some (c, P) → K.lookup P = none
  un : ∀ x ∈ lamNames, ∀ y ∈ lamNames, ∀ c d P, PySem.W.tabIn K x = some (c, P) → PySem.W.tabIn K y = some (d, P) → x = y
  nol : NoL K
theorem tabIn_mk {K : PySem.W.Frag} {x : Str} {f c P : Addr} {oc ca : Value} {od cb : Option Addr} {fd : FuncData} {osl cc : Array (Option Value)} {vs : Array Value} (a : PySem.W.nsIn K mainGlobals x = some (some (.ref f))) (l : K.lookup f = some ⟨oc, od, .func fd, osl⟩) (hc : fd.code = .ref c)
    (m : K.lookup c = some ⟨ca, cb, .fields vs, cc⟩) (n : (vs[11]? : Option Value) = some (.ref P)) : PySem.W.tabIn K x = some (c, P) := by
  unfold PySem.W.tabIn
  simp only [a, l, hc, m, n]
/-- no def here makes a lambda -/
theorem tabIn_no {K : PySem.W.Frag} {x : Str} (h : PySem.W.nsIn K mainGlobals x = some none) : PySem.W.tabIn K x = none := by
  unfold PySem.W.tabIn
  rw [h]
theorem tabW_of {K : PySem.W.Frag} {x y : Str} {ox oy : Option (Addr × Addr)} (hl : lamNames = [x, y]) (hx : PySem.W.tabIn K x = ox) (hy : PySem.W.tabIn K y = oy) (h1 : ∀ p, ox = some p → K.lookup p.2 = none) (h2 : ∀ p, oy = some p → K.lookup p.2 = none) (ne : ∀ p q, ox = some p → oy = some q → p.2 ≠ q.2) (kl : noLB K = true) : TabW K := by
  have two : ∀ z ∈ lamNames, z = x ∨ z = y := fun z hz => by
    rw [hl] at hz
    simpa using hz
  refine ⟨fun z hz c P e => ?_, fun z hz w hw c d P e1 e2 => ?_, noL_of kl⟩
  · rcases two z hz with rfl | rfl
    · exact h1 (c, P) (hx.symm.trans e)
    · exact h2 (c, P) (hy.symm.trans e)
  · rcases two z hz with rfl | rfl <;> rcases two w hw with rfl | rfl
    · rfl
    · exact absurd rfl (ne (c, P) (d, P) (hx.symm.trans e1) (hy.symm.trans e2))
    · exact absurd rfl (ne (d, P) (c, P) (hx.symm.trans e2) (hy.symm.trans e1))
    · rfl
/-! ### the law's call -/
theorem dq_ints {K : PySem.W.Frag} {F : Hp} : ∀ ns : List Int, DqAll K F (ns.map V.int) (ns.map PyData.int)
  | [] => .nil
  | i :: r => .cons (.int i) (dq_ints r)
theorem law_callG {P : Program} {w : World} {K : PySem.W.Frag} {mg mb : Str → Option Value} {n : Nat} {fa a : Addr} {fd : FuncData} {x : Str} {g : DefG} {s1 : Shared} {vs : List Value} {ns : List Int} {l : List PyData}
    (KX : K.In s1.heap) (hns : s1.heap.Ns mainGlobals mg) (hb : s1.heap.Ns builtinsNs mb) (hbb : ∀ x : Str, x ≠ "__name__" → mb x = bootBuiltins x) (hlim : s1.heap.NoLimit) (hg : s1.gens = #[])
    (hbm : ∃ (bm : Addr) (ob : Obj), mg "__builtins__" = some (.ref bm) ∧ bm ≠ builtinsNs ∧ s1.heap.get? bm = some ob ∧ ob.cls = .type "module" ∧ ob.dict = some builtinsNs ∧ ob.data = .plain)
    (hT : ∀ x ∈ lamNames, ∀ c P, PySem.W.tabIn K x = some (c, P) → PySem.W.CodeHd s1.heap c P ∧ s1.heap.get? P = some (PySem.W.tabObj #[])) (TW : TabW K)
    (ha : s1.heap.get? a = some { cls := .type "list", data := .seq vs.toArray }) (hi : IntsAre vs ns) (hl : ns.length ≤ sizeLine) (hr : Room n callerA) (F : ∀ base : Heap, TabK K mg base → FnG P w K mg base n fa fd [x] g)
    (hbind : ∀ (s : Shared) (u : Value), BindsTo s fd ⟨[u], []⟩ [(x, u)]) (eg : g [.v (.list (ns.map .int))] = some (.v (.bool true), l)) :
    codeAny (model P w) callerA (.call (.ref fa) ⟨[.ref a], []⟩) (fun r s' => r = .ok (.ret (.bool true)) ∧ OldK s1.heap s'.heap ∧ s'.os = s1.os ∧ AllBare s'.gens) s1 := by
  have rv := vals_ints hi
  have hz : (ns.map V.int).length ≤ sizeLine := by
    rw [List.length_map]
    exact hl
  have tabAt : ∀ {b : Addr}, (∃ q, TN K b q) → (∃ c, PySem.W.CodeHd s1.heap c b) ∧ s1.heap.get? b = some (PySem.W.tabObj #[]) ∧ K.lookup b = none := fun {b} ⟨q, y, c, hy, e, _⟩ =>
    ⟨⟨c, (hT y hy c b e).1⟩, (hT y hy c b e).2, TW.out y hy c b e⟩
  have aT : ¬ ∃ q, TN K a q := fun z => by
    have e := (tabAt z).2.1
    rw [ha] at e
    have z' : Data.seq vs.toArray _ = Data.fields #[] := congrArg Obj.data (Option.some.inj e)
    cases z'
  -- Hs: the script's part of the abstract heap
  have core : ∀ Hs : Hp, RdL K Hs a (ns.map V.int) → (∀ b u, Hs b = some u → b = a ∧ u = .frz { cls := .type "list", data := .seq vs.toArray } (.lst (ns.map V.int))) → (Hs a ≠ none → K.lookup a = none) →
      codeAny (model P w) callerA (.call (.ref fa) ⟨[.ref a], []⟩) (fun r s' => r = .ok (.ret (.bool true)) ∧ OldK s1.heap s'.heap ∧ s'.os = s1.os ∧ AllBare s'.gens) s1 := by
    intro Hs hS hA hK
    obtain ⟨H, hH1, hH2⟩ : ∃ H : Hp, (∀ b, (∃ q, TN K b q) → H b = some (.tbl #[])) ∧ ∀ b, (¬ ∃ q, TN K b q) → H b = Hs b := by
      classical
      exact ⟨fun b => if ∃ q, TN K b q then some (.tbl #[]) else Hs b, fun b h => if_pos h, fun b h => if_neg h⟩
    have tracked : ∀ {b : Addr} {u : HO}, H b = some u → (∃ q, TN K b q) ∨ (b = a ∧ Hs b = some u) := fun {b u} e => by
      by_cases hb : ∃ q, TN K b q
      · exact .inl hb
      · rw [hH2 b hb] at e
        exact .inr ⟨(hA b u e).1, e⟩
    have free : ∀ {b : Addr} {o : Obj}, s1.heap.get? b = some o → (∀ vs n, o.data ≠ .seq vs n) → o.data ≠ .fields #[] → H b = none := fun {b o} e h1 h2 => by
      cases q : H b with
      | none => rfl
      | some u =>
        rcases tracked q with z | ⟨rfl, _⟩
        · rw [(tabAt z).2.1] at e
          cases e
          exact (h2 rfl).elim
        · rw [ha] at e
          cases e
          exact (h1 _ _ rfl).elim
    have dicts : ∀ {b : Addr} {o : Obj} {es : Array DictEntry} {ep : Nat}, s1.heap.get? b = some o → o.data = .dict es ep → H b = none := fun {b o es ep} e d =>
      free e (fun vs n z => by rw [d] at z; cases z) (fun z => by rw [d] at z; cases z)
    have nsK : ∀ {b : Addr} {m : Str → Option Value}, s1.heap.Ns b m → (hidT s1.heap H).Ns b m := fun {b m} ⟨o, es, ep, e, d, r⟩ => ⟨o, es, ep, hidT_get e (dicts e d), d, r⟩
    have kin : K.In (hidT s1.heap H) := fun b o e => hidT_get (KX b o e) (by
      cases q : H b with
      | none => rfl
      | some u =>
        rcases tracked q with z | ⟨rfl, z⟩
        · rw [(tabAt z).2.2] at e
          cases e
        · rw [hK (by rw [z]; simp)] at e
          cases e)
    have hM : Mod K mg (hidT s1.heap H) := ⟨kin, nsK hns, ⟨mb, nsK hb, hbb⟩, let ⟨mc, h1, h2⟩ := hlim; ⟨mc, nsK h1, h2⟩⟩
    have hok : HOk P w H s1.heap := fun b u e => by
      rcases tracked e with z | ⟨rfl, z⟩
      · rw [hH1 b z] at e
        cases e
        exact (tabAt z).2.1
      · obtain ⟨_, rfl⟩ := hA _ _ z
        exact ⟨ha, hz, vs, _, rv, ha⟩
    have TB : ∀ y ∈ lamNames, ∀ c Pt, PySem.W.tabIn K y = some (c, Pt) → LamX.TabB (hidT s1.heap H) mg c Pt := fun y hy c Pt e => by
      obtain ⟨C, hTp⟩ := hT y hy c Pt e
      refine ⟨?_, ?_, fun z => ?_⟩
      · obtain ⟨o, us, file, tf, flags, tg, inF, text, tt, e1, r1, r2, r3, r⟩ := C
        refine ⟨o, us, file, tf, flags, tg, inF, text, tt, hidT_get e1 (free e1 (fun vs n z => ?_) fun z => ?_), r1, r2, r3, r⟩
        · rw [r2] at z
          cases z
        · rw [r2] at z
          cases z
          simp at r3
      · obtain ⟨bm, ob, b1, b2, b3, b4, b5, b6⟩ := hbm
        refine ⟨bm, ob, b1, b2, fun q => ?_, fun q => ?_, hidT_get b3 (free b3 (fun vs n z => ?_) fun z => ?_), b4, b5, b6⟩
        · obtain ⟨o, es, ep, e, hd, _⟩ := hns
          rw [q, e] at b3
          cases b3
          rw [hd] at b6
          cases b6
        · rw [q, hTp] at b3
          cases b3
          cases b6
        · rw [b6] at z
          cases z
        · rw [b6] at z
          cases z
      · obtain ⟨o, es, ep, e, hd, _⟩ := hns
        rw [z, hTp] at e
        cases e
        cases hd
    have TK : TabK K mg (hidT s1.heap H) := ⟨kin, nsK hns, TB, TW.un, TW.nol⟩
    have none_in : ∀ b, b ∉ frs ([] : List Env) := fun b z => by
      have z' : b ∈ ([] : List Addr) := z
      simp at z'
    have e0 : Env0 P w K mg (hidT s1.heap H) callerA [] s1 H := ⟨rfl, hM, fun b o e => of_hidT e, Nat.le_of_eq (hidT_size _ _), trivial, fun b hb => absurd hb (none_in b), hok, .of_eq hg⟩
    have sub : Same Hs H := fun b u e => by
      obtain ⟨rfl, _⟩ := hA b u e
      rw [hH2 _ aT]
      exact e
    have sp : spF K g [.ref a] H (fun v _ => v = .bl true) := by
      refine ⟨Hs, [.v (.list (ns.map .int))], .v (.bool true), l, sub, ⟨fun Pt q z => LamX.TabS.nil (hH1 Pt ⟨q, z⟩), fun Pt q z => ?_⟩, .cons (.lst hS (dq_ints ns)) .nil, fun i j d e z _ => ?_, eg, fun v H' F' post => ?_⟩
      · cases e : Hs Pt with
        | none => rfl
        | some u =>
          obtain ⟨rfl, _⟩ := hA _ _ e
          exact absurd ⟨q, z⟩ aT
      · cases i with
        | zero => cases z
        | succ i => simp at z
      · have q := post.res
        cases q
        rfl
    refine codeAny_mono ((F _ TK).run callerA [] s1 H ⟨[.ref a], []⟩ [.ref a] [.ref a] _ hr rfl e0 (hbind s1 (.ref a)) (.cons rfl .nil) sp) fun r s' h => ?_
    cases r with
    | error e => exact h.elim
    | ok fl =>
      cases fl with
      | next => exact h.elim
      | brk => exact h.elim
      | cont => exact h.elim
      | ret u =>
        obtain ⟨v, H', os, bare, un, hok', r', q⟩ := h
        have q' : v = .bl true := q
        subst q'
        obtain rfl : u = Value.bool true := r'
        have key : ∀ b o, (¬ ∃ q, TN K b q) → s1.heap.get? b = some o → s'.heap.get? b = some o := fun b o nb e => by
          cases q : H b with
          | none => exact un.keep b o e q (none_in b) (by simp)
          | some u =>
            rcases tracked q with z | ⟨rfl, z⟩
            · exact absurd z nb
            · obtain ⟨_, rfl⟩ := hA _ _ z
              obtain ⟨e1, _⟩ := hok b _ q
              obtain ⟨e2, _⟩ := hok' b _ (un.frzs b _ _ q)
              rw [e] at e1
              cases e1
              exact e2
        have grown : ∀ b, (∃ q, TN K b q) → ∃ more : Array Value, s'.heap.get? b = some { cls := .none, data := .fields more } := fun b hb => by
          obtain ⟨more, z⟩ := un.tbls b #[] (hH1 b hb)
          exact ⟨_, hok' b _ z⟩
        refine ⟨rfl, ⟨fun b o e => ?_, fun b o e => ?_⟩, os, bare⟩
        · by_cases hb : ∃ q, TN K b q
          · obtain ⟨more, hm⟩ := grown b hb
            obtain ⟨⟨c, C⟩, hTp, _⟩ := tabAt hb
            rw [hTp] at e
            cases e
            exact .inr (.inl ⟨(C.tab hTp).isCodeTable, rfl, #[], more, rfl, by rw [Array.empty_append]; exact hm⟩)
          · exact .inl (key b o hb e)
        · by_cases hb : ∃ q, TN K b q
          · obtain ⟨more, hm⟩ := grown b hb
            exact ⟨_, hm⟩
          · exact ⟨o, key b o hb e⟩
  cases hk : K.lookup a with
  | some o =>
    have e := KX a o hk
    rw [ha] at e
    cases e
    exact core (fun _ => none) (.inr ⟨vs, _, hk, rv, hz⟩) (fun b u z => by cases z) (fun z => absurd rfl z)
  | none =>
    refine core (upd (fun _ => none) a (.frz { cls := .type "list", data := .seq vs.toArray } (.lst (ns.map V.int)))) (.inl (.inr ⟨_, upd_same⟩)) (fun b u z => ?_) (fun _ => hk)
    by_cases hb2 : b = a
    · subst hb2
      rw [upd_same] at z
      cases z
      exact ⟨rfl, rfl⟩
    · rw [upd_ne hb2] at z
      cases z
/-- what k_head leaves, from the defs and the law's run -/
theorem walk_P {l : PySem.W.OpenLaw} {m n : Nat} {q : Program} {loose : List Str} {XP : (Str → Option Value) → Heap → Prop} {YP : World → Heap → Prop} {d : DefRec} {K : Params → PySem.W.Frag} {x : Str} {g : DefG} (md : List Str) (hq : ∀ y ∈ md, ∃ e, (recsOf q).find? (fun e => e.name == y) = some e)
    (hn : l.most = some m) (hm : m ≤ sizeLine) (hdf : d.params.defaults = []) (hr : Room n callerA) (hY : ∀ (w : World) (h : Heap), YP w h → (K w.params).In h)
    (F : ∀ (w : World) (mg : Str → Option Value) (fa : Addr) (h : Heap), (K w.params).In h → h.Ns mainGlobals mg → mg d.name = some (.ref fa) →
      ∃ fd : FuncData, (∀ (s : Shared) (u : Value), BindsTo s fd ⟨[u], []⟩ [(x, u)]) ∧ TabW (K w.params) ∧ (∀ y ∈ lamNames, y ∉ md → PySem.W.tabIn (K w.params) y = none) ∧ ∀ base : Heap, TabK (K w.params) mg base → FnG l.prog w (K w.params) mg base n fa fd [x] g)
    (eg : ∀ ns : List Int, ns.length ≤ m → ∃ ds, g [.v (.list (ns.map .int))] = some (.v (.bool true), ds)) :
    PySem.W.WalkO q loose XP YP l.row.toRowW d [] (fun f vs => PySem.call f vs) := by
  refine Att.attach_call hn hdf fun w s0 s1 mg mb fa o pm cd doc a vs ns G Y ho hd hcd hmg hobj hints hlen hg => ?_
  have KX := hY w _ Y
  obtain ⟨fd, hb, TW, hno, hF⟩ := F w mg fa _ KX G.T.g hmg
  obtain ⟨ds, e⟩ := eg ns hlen
  refine law_callG KX G.T.g G.T.b G.T.builtins G.T.nolimit hg G.T.bmain (fun y hy c Pt ht => ?_) TW hobj hints (Nat.le_trans hlen hm) hr hF hb e
  by_cases hm : y ∈ md
  · obtain ⟨e, z⟩ := hq y hm
    exact PySem.W.tab_of G.T KX z ht
  · rw [hno y hy hm] at ht
    cases ht
end PF

/-! PF15: evaluation by simp. -/
namespace PF
open PySem L2
section
variable {Γ : Tab} {C : List (Str × PyData)} {FU : Nat} {env : En}
@[simp] theorem at_zero (s : Option Sl) (r : En) : En.at (s :: r) 0 = s := rfl
@[simp] theorem at_succ (s : Option Sl) (r : En) (i : Nat) : En.at (s :: r) (i + 1) = En.at r i := rfl
@[simp] theorem get_d (z : PyData) : Hd.get env (.d z) = some z := rfl
@[simp] theorem get_s (i : Nat) : Hd.get env (.s i) = (env.at i).bind Sl.lk := rfl
@[simp] theorem lk_v (z : PyData) : Sl.lk (.v z) = some z := rfl
@[simp] theorem lk_o (z : List PyData) : Sl.lk (.o z) = some (.list z) := rfl
@[simp] theorem lk_b (z : List PyData) : Sl.lk (.b z) = some (.list z) := rfl
@[simp] theorem lk_w (z : List (PyData × PyData)) : Sl.lk (.w z) = some (.dict z) := rfl
@[simp] theorem d_w (z : List (PyData × PyData)) : Sl.d (.w z) = .dict z := rfl
@[simp] theorem d_v (z : PyData) : Sl.d (.v z) = z := rfl
@[simp] theorem d_o (z : List PyData) : Sl.d (.o z) = .list z := rfl
@[simp] theorem d_b (z : List PyData) : Sl.d (.b z) = .list z := rfl
@[simp] theorem hd_x (i : Nat) (r : RE) : hd (.x i) r env = if (env.at i).isSome then some (.s i, env) else none := rfl
@[simp] theorem hd_k (d : PyData) (r : RE) : hd (.k d) r env = r.bind fun p => some (.d p.1.d, p.2) := rfl
@[simp] theorem hd_g (d : Str) (r : RE) : hd (.g d) r env = r.bind fun p => some (.d p.1.d, p.2) := rfl
@[simp] theorem hd_bin (o) (a b : IE) (r : RE) : hd (.bin o a b) r env = r.bind fun p => some (.d p.1.d, p.2) := rfl
@[simp] theorem hd_neg (a : IE) (r : RE) : hd (.neg a) r env = r.bind fun p => some (.d p.1.d, p.2) := rfl
@[simp] theorem hd_not (a : IE) (r : RE) : hd (.not a) r env = r.bind fun p => some (.d p.1.d, p.2) := rfl
@[simp] theorem hd_and (a b : IE) (r : RE) : hd (.and a b) r env = r.bind fun p => some (.d p.1.d, p.2) := rfl
@[simp] theorem hd_or (a b : IE) (r : RE) : hd (.or a b) r env = r.bind fun p => some (.d p.1.d, p.2) := rfl
@[simp] theorem hd_cmp (o) (a b : IE) (r : RE) : hd (.cmp o a b) r env = r.bind fun p => some (.d p.1.d, p.2) := rfl
@[simp] theorem hd_ch3 (o o' o'') (a b c d : IE) (r : RE) : hd (.ch3 o o' o'' a b c d) r env = r.bind fun p => some (.d p.1.d, p.2) := rfl
@[simp] theorem hd_ch (o o') (a b c : IE) (r : RE) : hd (.ch o o' a b c) r env = r.bind fun p => some (.d p.1.d, p.2) := rfl
@[simp] theorem hd_ife (t : IT) (a b : IE) (r : RE) : hd (.ife t a b) r env = r.bind fun p => some (.d p.1.d, p.2) := rfl
@[simp] theorem hd_ix (a b : IE) (r : RE) : hd (.ix a b) r env = r.bind fun p => some (.d p.1.d, p.2) := rfl
@[simp] theorem hd_sl (a : IE) (b c : IO) (r : RE) : hd (.sl a b c) r env = r.bind fun p => some (.d p.1.d, p.2) := rfl
@[simp] theorem hd_srs (a : IE) (r : RE) : hd (.srs a) r env = r.bind fun p => some (.d p.1.d, p.2) := rfl
@[simp] theorem hd_rv (a : IE) (r : RE) : hd (.rv a) r env = r.bind fun p => some (.d p.1.d, p.2) := rfl
@[simp] theorem hd_tup (a : IL) (r : RE) : hd (.tup a) r env = r.bind fun p => some (.d p.1.d, p.2) := rfl
@[simp] theorem hd_lst (a : IL) (r : RE) : hd (.lst a) r env = r.bind fun p => some (.d p.1.d, p.2) := rfl
@[simp] theorem hd_fn (f) (a : IL) (r : RE) : hd (.fn f a) r env = r.bind fun p => some (.d p.1.d, p.2) := rfl
@[simp] theorem hd_isi (a : IE) (t : String) (r : RE) : hd (.isi a t) r env = r.bind fun p => some (.d p.1.d, p.2) := rfl
@[simp] theorem hd_call (f : Nat) (a : IL) (r : RE) : hd (.call f a) r env = r.bind fun p => some (.d p.1.d, p.2) := rfl
@[simp] theorem hd_lc (o) (g : IG) (i : II) (c : IT) (a : IE) (r : RE) : hd (.lc o g i c a) r env = r.bind fun p => some (.d p.1.d, p.2) := rfl
@[simp] theorem hd_lcl (o) (i : Nat) (g : IG) (c : IT) (a : IE) (r : RE) : hd (.lcl o i g c a) r env = r.bind fun p => some (.d p.1.d, p.2) := rfl
@[simp] theorem hd_lcd (o) (i : Nat) (g : IG) (c : IT) (a : IE) (r : RE) : hd (.lcd o i g c a) r env = r.bind fun p => some (.d p.1.d, p.2) := rfl
@[simp] theorem hd_dcm (o) (g : IG) (i : II) (c : IT) (k a : IE) (r : RE) : hd (.dcm o g i c k a) r env = r.bind fun p => some (.d p.1.d, p.2) := rfl
@[simp] theorem hd_lrg (a : IE) (r : RE) : hd (.lrg a) r env = r.bind fun p => some (.d p.1.d, p.2) := rfl
@[simp] theorem hd_lrg2 (a b : IE) (r : RE) : hd (.lrg2 a b) r env = r.bind fun p => some (.d p.1.d, p.2) := rfl
@[simp] theorem hd_dic (a : IL) (r : RE) : hd (.dic a) r env = r.bind fun p => some (.d p.1.d, p.2) := rfl
@[simp] theorem hd_dget (i : Nat) (a b : IE) (r : RE) : hd (.dget i a b) r env = r.bind fun p => some (.d p.1.d, p.2) := rfl
@[simp] theorem hd_dix (i : Nat) (a : IE) (r : RE) : hd (.dix i a) r env = r.bind fun p => some (.d p.1.d, p.2) := rfl
@[simp] theorem hd_din (m : Bool) (i : Nat) (a : IE) (r : RE) : hd (.din m i a) r env = r.bind fun p => some (.d p.1.d, p.2) := rfl
@[simp] theorem hd_bits (a : IE) (r : RE) : hd (.bits a) r env = r.bind fun p => some (.d p.1.d, p.2) := rfl
@[simp] theorem runE_dic (es : IL) : runE Γ C (.dic es) env = (runV Γ C es env).bind fun p => (getD p.1).bind fun ds => (pairsD ds).bind fun kvs => if kvs.length ≤ 15 then some (.w (mergeD [] kvs), p.2) else none := rfl
@[simp] theorem runE_dget (i : Nat) (k e : IE) : runE Γ C (.dget i k e) env = (dctAt env i).bind fun _ => (hd k (runE Γ C k env) env).bind fun p => (runE Γ C e p.2).bind fun q => (p.1.get q.2).bind fun y => (keyD y).bind fun z => (dctAt q.2 i).bind fun kvs =>
      some (.v ((dlook kvs z).getD q.1.d), q.2) := rfl
@[simp] theorem runE_dix (i : Nat) (k : IE) : runE Γ C (.dix i k) env = (dctAt env i).bind fun _ => (hd k (runE Γ C k env) env).bind fun p => (p.1.get p.2).bind fun y => (keyD y).bind fun z => (dctAt p.2 i).bind fun kvs => (dlook kvs z).bind fun d => some (.v d, p.2) := rfl
@[simp] theorem runE_din (m : Bool) (i : Nat) (k : IE) : runE Γ C (.din m i k) env = (hd k (runE Γ C k env) env).bind fun p => (p.1.get p.2).bind fun y => (keyD y).bind fun z => (dctAt p.2 i).bind fun kvs => some (.v (.bool (xor m (dlook kvs z).isSome)), p.2) := rfl
@[simp] theorem runE_bits (a : IE) : runE Γ C (.bits a) env = un1 (hd a (runE Γ C a env) env) fun d => match d with
      | .int i => some (.v (.int (Builtin.Int.intBits i : Nat)))
      | _ => none := rfl
@[simp] theorem key_i (i : Int) : keyD (.int i) = some (.inl i) := rfl
@[simp] theorem key_s (x : Str) : keyD (.str x) = some (.inr x) := rfl
@[simp] theorem pairs_0 : pairsD [] = some [] := rfl
@[simp] theorem pairs_2 (k v : PyData) (r : List PyData) : pairsD (k :: v :: r) = (keyD k).bind fun _ => (pairsD r).bind fun l => some ((k, v) :: l) := rfl
theorem runS_dput (i : Nat) (k e : IE) : runS Γ C FU (.dput i k e) env = (runE Γ C e env).bind fun p => (dctAt p.2 i).bind fun _ => (hd k (runE Γ C k p.2) p.2).bind fun q => (q.1.get q.2).bind fun y => (keyD y).bind fun z => match q.2.at i with
      | some (.w kvs) => if kvs.length < sizeLine then some (.nx (q.2.set i (some (.w (dput kvs y z p.1.d))))) else none
      | _ => none := rfl
@[simp] theorem hd_mt (m) (i : Nat) (a : IL) (r : RE) : hd (.mt m i a) r env = r.bind fun p => some (.d p.1.d, p.2) := rfl
@[simp] theorem use_v {i : Nat} {d : PyData} (h : env.at i = some (.v d)) : useI env i = some (.v d, env) := by
  unfold useI
  rw [h]
@[simp] theorem use_o {i : Nat} {ds : List PyData} (h : env.at i = some (.o ds)) : useI env i = some (.v (.list ds), env.set i (some (.v (.list ds)))) := by
  unfold useI
  rw [h]
@[simp] theorem put_v {i : Nat} {d : PyData} {s : Sl} (h : env.at i = some (.v d)) : env.put i s = some (env.set i (some s)) := by
  unfold En.put
  rw [h]
@[simp] theorem put_o {i : Nat} {d : List PyData} {s : Sl} (h : env.at i = some (.o d)) : env.put i s = some (env.set i (some s)) := by
  unfold En.put
  rw [h]
@[simp] theorem put_w {i : Nat} {d : List (PyData × PyData)} {s : Sl} (h : env.at i = some (.w d)) : env.put i s = some (env.set i (some s)) := by
  unfold En.put
  rw [h]
@[simp] theorem use_w {i : Nat} {ds : List (PyData × PyData)} (h : env.at i = some (.w ds)) : useI env i = some (.v (.dict ds), env.set i (some (.v (.dict ds)))) := by
  unfold useI
  rw [h]
@[simp] theorem put_none {i : Nat} {s : Sl} (h : env.at i = none) : env.put i s = some (env.set i (some s)) := by
  unfold En.put
  rw [h]
@[simp] theorem runE_k (d : PyData) : runE Γ C (.k d) env = some (.v d, env) := rfl
@[simp] theorem runE_g (x : Str) : runE Γ C (.g x) env = (C.lookup x).bind fun d => some (.v d, env) := rfl
@[simp] theorem runE_x (i : Nat) : runE Γ C (.x i) env = useI env i := rfl
@[simp] theorem runE_bin (op : Operator) (a b : IE) : runE Γ C (.bin op a b) env = (hd a (runE Γ C a env) env).bind fun p => (hd b (runE Γ C b p.2) p.2).bind fun q =>
      (p.1.get q.2).bind fun x => (q.1.get q.2).bind fun y => (binD op x y).bind fun r => some (r, q.2) := rfl
@[simp] theorem runE_neg (a : IE) : runE Γ C (.neg a) env = un1 (hd a (runE Γ C a env) env) fun d => match d with
      | .int i => some (.v (.int (-i)))
      | _ => none := rfl
@[simp] theorem runE_not (a : IE) : runE Γ C (.not a) env = un1 (hd a (runE Γ C a env) env) fun d => (truD d).bind fun b => some (.v (.bool !b)) := rfl
@[simp] theorem runE_and (a b : IE) : runE Γ C (.and a b) env = (runE Γ C a env).bind fun p => (truD p.1.d).bind fun t => if t = true then runE Γ C b p.2 else some (.v p.1.d, p.2) := rfl
@[simp] theorem runE_or (a b : IE) : runE Γ C (.or a b) env = (runE Γ C a env).bind fun p => (truD p.1.d).bind fun t => if t = true then some (.v p.1.d, p.2) else runE Γ C b p.2 := rfl
@[simp] theorem runE_cmp (op : CmpOp) (a b : IE) : runE Γ C (.cmp op a b) env = (hd a (runE Γ C a env) env).bind fun p => (hd b (runE Γ C b p.2) p.2).bind fun q =>
      (p.1.get q.2).bind fun x => (q.1.get q.2).bind fun y => (cmpD op x y).bind fun r => some (.v (.bool r), q.2) := rfl
@[simp] theorem runE_ch (op op' : CmpOp) (a b c : IE) : runE Γ C (.ch op op' a b c) env = (hd a (runE Γ C a env) env).bind fun p => (hd b (runE Γ C b p.2) p.2).bind fun q =>
      (p.1.get q.2).bind fun x => (q.1.get q.2).bind fun y => (cmpD op x y).bind fun r => if r = true then
        (hd c (runE Γ C c q.2) q.2).bind fun w => (q.1.get w.2).bind fun y' => (w.1.get w.2).bind fun z => (cmpD op' y' z).bind fun r' => some (.v (.bool r'), w.2)
      else some (.v (.bool false), q.2) := rfl
@[simp] theorem runE_ch3 (op op' op'' : CmpOp) (a b c d : IE) : runE Γ C (.ch3 op op' op'' a b c d) env = (hd a (runE Γ C a env) env).bind fun p => (hd b (runE Γ C b p.2) p.2).bind fun q =>
      (p.1.get q.2).bind fun x => (q.1.get q.2).bind fun y => (cmpD op x y).bind fun r => if r = true then
        (hd c (runE Γ C c q.2) q.2).bind fun w => (q.1.get w.2).bind fun y' => (w.1.get w.2).bind fun z => (cmpD op' y' z).bind fun r' => if r' = true then
          (hd d (runE Γ C d w.2) w.2).bind fun u => (w.1.get u.2).bind fun z' => (u.1.get u.2).bind fun t => (cmpD op'' z' t).bind fun r'' => some (.v (.bool r''), u.2)
        else some (.v (.bool false), w.2)
      else some (.v (.bool false), q.2) := rfl
@[simp] theorem runE_ife (t : IT) (a b : IE) : runE Γ C (.ife t a b) env = (runT Γ C t env).bind fun p => if p.1 = true then runE Γ C a p.2 else runE Γ C b p.2 := rfl
@[simp] theorem runE_ix (a b : IE) : runE Γ C (.ix a b) env = (hd a (runE Γ C a env) env).bind fun p => (hd b (runE Γ C b p.2) p.2).bind fun q =>
      (p.1.get q.2).bind fun x => (q.1.get q.2).bind fun y => (ixD x y).bind fun r => some (.v r, q.2) := rfl
@[simp] theorem runE_sl (a : IE) (lo hi : IO) : runE Γ C (.sl a lo hi) env = (hd a (runE Γ C a env) env).bind fun p => (runO Γ C lo p.2).bind fun q => (runO Γ C hi q.2).bind fun w =>
      (p.1.get w.2).bind fun x => (slD x q.1 w.1).bind fun r => some (r, w.2) := rfl
@[simp] theorem runE_srs (a : IE) : runE Γ C (.srs a) env = un1 (hd a (runE Γ C a env) env) srsD := rfl
@[simp] theorem runE_rv (a : IE) : runE Γ C (.rv a) env = un1 (hd a (runE Γ C a env) env) rvD := rfl
@[simp] theorem runE_tup (es : IL) : runE Γ C (.tup es) env = (runV Γ C es env).bind fun p => (getD p.1).bind fun ds => if ds.length ≤ sizeLine then some (.v (.tuple ds), p.2) else none := rfl
@[simp] theorem runE_lst (es : IL) : runE Γ C (.lst es) env = (runV Γ C es env).bind fun p => (getD p.1).bind fun ds => if ds.length ≤ sizeLine then some (.o ds, p.2) else none := rfl
@[simp] theorem runE_fn (f : BF) (es : IL) : runE Γ C (.fn f es) env = (runL Γ C es env).bind fun p => (getL p.2 p.1).bind fun ds => (fnD f ds).bind fun r => some (r, p.2) := rfl
@[simp] theorem runE_isi (a : IE) (t : String) : runE Γ C (.isi a t) env = un1 (hd a (runE Γ C a env) env) fun d => if isF d = true then none else some (.v (.bool (isiD d t))) := rfl
@[simp] theorem isF_n : isF .none = false := rfl
@[simp] theorem isF_b (b : Bool) : isF (.bool b) = false := rfl
@[simp] theorem isF_i (i : Int) : isF (.int i) = false := rfl
@[simp] theorem isF_s (s : Str) : isF (.str s) = false := rfl
@[simp] theorem isF_l (l : List PyData) : isF (.list l) = false := rfl
@[simp] theorem isF_t (l : List PyData) : isF (.tuple l) = false := rfl
@[simp] theorem isF_d (l : List (PyData × PyData)) : isF (.dict l) = fnQ l := rfl
@[simp] theorem fnQ_nil : fnQ [] = false := rfl
@[simp] theorem fnQ_int (i : Int) (d : PyData) (r : List (PyData × PyData)) : fnQ ((.int i, d) :: r) = false := rfl
@[simp] theorem fnQ_str (i : Str) (d : PyData) (r : List (PyData × PyData)) : fnQ ((.str i, d) :: r) = false := rfl
@[simp] theorem runE_act (i f : Nat) (x : Str) (es : IL) : runE Γ C (.act i f x es) env = if fnAt env i x = true then (runV Γ C es env).bind fun p => (getA p.2 false p.1).bind fun as => (Γ f as).bind fun r => some (r.1, putA p.2 p.1 r.2) else none := rfl
@[simp] theorem runE_call (f : Nat) (es : IL) : runE Γ C (.call f es) env = (runV Γ C es env).bind fun p => (getA p.2 false p.1).bind fun as => (Γ f as).bind fun r => some (r.1, putA p.2 p.1 r.2) := rfl
theorem runE_lc (own : List (Str × Nat)) (g : IG) (it : II) (c : IT) (e : IE) : runE Γ C (.lc own g it c e) env = (runI Γ C it env).bind fun p => if noOwn p.2 own = true then
      (compD (lcTurn Γ C own g c e) p.1 (wipeE p.2 own)).bind fun q => if q.1.length ≤ sizeLine then some (.o q.1, backE p.2 q.2 own) else none
      else none := rfl
theorem runE_lcl (own : List (Str × Nat)) (i : Nat) (g : IG) (c : IT) (e : IE) : runE Γ C (.lcl own i g c e) env = (atS env i).bind fun ds => if noOwn env own = true ∧ (own.all fun p => !decide (p.2 = i)) = true then
      (compD (fun d en => if sameL en i ds = true then lcTurn Γ C own g c e d en else none) ds (wipeE env own)).bind fun q => if sameL q.2 i ds = true ∧ q.1.length ≤ sizeLine then some (.o q.1, backE env q.2 own) else none
      else none := rfl
theorem runE_lcd (own : List (Str × Nat)) (i : Nat) (g : IG) (c : IT) (e : IE) : runE Γ C (.lcd own i g c e) env = (keysAt env i).bind fun ds => if noOwn env own = true then
      (compD (lcTurn Γ C own g c e) ds (wipeE env own)).bind fun q => if q.1.length ≤ sizeLine then some (.o q.1, backE env q.2 own) else none
      else none := rfl
theorem runE_dcm (own : List (Str × Nat)) (g : IG) (it : II) (c : IT) (k e : IE) : runE Γ C (.dcm own g it c k e) env = (runI Γ C it env).bind fun p => if noOwn p.2 own = true then
      (compD (dcTurn Γ C own g c k e) p.1 (wipeE p.2 own)).bind fun q => if q.1.length ≤ sizeLine then (prsD q.1).bind fun kvs => some (.w (mergeD [] kvs), backE p.2 q.2 own) else none
      else none := rfl
theorem keysAt_v {i : Nat} {kvs : List (PyData × PyData)} (h : env.at i = some (.v (.dict kvs))) (hq : fnQ kvs = false) : keysAt env i = some (kvs.map (·.1)) := by
  unfold keysAt
  rw [h]
  exact if_neg (by rw [hq]; exact Bool.false_ne_true)
@[simp] theorem runE_lrg (a : IE) : runE Γ C (.lrg a) env = (hd a (runE Γ C a env) env).bind fun p => (p.1.get p.2).bind fun d => match d with
      | .int j => (lrgO 0 j).bind fun ds => some (.o ds, p.2)
      | _ => none := rfl
@[simp] theorem runE_lrg2 (a b : IE) : runE Γ C (.lrg2 a b) env = (hd a (runE Γ C a env) env).bind fun p => (hd b (runE Γ C b p.2) p.2).bind fun q =>
      (p.1.get q.2).bind fun x => (q.1.get q.2).bind fun y => match x, y with
      | .int i, .int j => (lrgO i j).bind fun ds => some (.o ds, q.2)
      | _, _ => none := rfl
theorem runE_mt (m : MT) (i : Nat) (es : IL) : runE Γ C (.mt m i es) env = if mutAt env i = true then (runV Γ C es env).bind fun p => (getD p.1).bind fun ds => match p.2.at i with
      | some (.o xs) => (mtD m xs ds).bind fun r => some (.v r.1, p.2.set i (some (.o r.2)))
      | some (.b xs) => (mtD m xs ds).bind fun r => some (.v r.1, p.2.set i (some (.b r.2)))
      | _ => none
    else none := rfl
@[simp] theorem un1_some (h : Hd) (e : En) (f : PyData → Option Sl) : un1 (some (h, e)) f = (h.get e).bind fun d => (f d).bind fun r => some (r, e) := rfl
@[simp] theorem tr1_some (h : Hd) (e : En) : tr1 (some (h, e)) = (h.get e).bind fun d => (truD d).bind fun r => some (r, e) := rfl
@[simp] theorem runT_yes : runT Γ C .yes env = some (true, env) := rfl
@[simp] theorem runT_e (a : IE) : runT Γ C (.e a) env = tr1 (hd a (runE Γ C a env) env) := rfl
@[simp] theorem runT_not (a : IT) : runT Γ C (.not a) env = (runT Γ C a env).bind fun p => some (!p.1, p.2) := rfl
@[simp] theorem runT_and (a b : IT) : runT Γ C (.and a b) env = (runT Γ C a env).bind fun p => if p.1 = true then runT Γ C b p.2 else some (false, p.2) := rfl
@[simp] theorem runT_or (a b : IT) : runT Γ C (.or a b) env = (runT Γ C a env).bind fun p => if p.1 = true then some (true, p.2) else runT Γ C b p.2 := rfl
@[simp] theorem runL_nil : runL Γ C .nil env = some ([], env) := rfl
@[simp] theorem runL_cons (a : IE) (r : IL) : runL Γ C (.cons a r) env = (hd a (runE Γ C a env) env).bind fun p => (runL Γ C r p.2).bind fun q => some (p.1 :: q.1, q.2) := rfl
@[simp] theorem runV_nil : runV Γ C .nil env = some ([], env) := rfl
@[simp] theorem runV_cons (a : IE) (r : IL) : runV Γ C (.cons a r) env = (runE Γ C a env).bind fun p => (runV Γ C r p.2).bind fun q => some (.d p.1.d :: q.1, q.2) := rfl
@[simp] theorem runV_star (a : IE) (r : IL) : runV Γ C (.star a r) env = (runE Γ C a env).bind fun p => match p.1.d with
      | .list ds => (runV Γ C r p.2).bind fun q => some (ds.map Hd.d ++ q.1, q.2)
      | .tuple ds => (runV Γ C r p.2).bind fun q => some (ds.map Hd.d ++ q.1, q.2)
      | _ => none := rfl
@[simp] theorem runV_io (i : Nat) (r : IL) : runV Γ C (.io i r) env = if (env.at i).isSome then (runV Γ C r env).bind fun q => some (.s i :: q.1, q.2) else none := rfl
@[simp] theorem runR_nil : runR Γ C .nil env = some ([], env) := rfl
@[simp] theorem runR_cons (a : IE) (r : IL) : runR Γ C (.cons a r) env = (runE Γ C a env).bind fun p => (runR Γ C r p.2).bind fun q => some (p.1 :: q.1, q.2) := rfl
@[simp] theorem putN_nil : putN [] [] env = some env := rfl
@[simp] theorem putN_cons (i : Nat) (is : List Nat) (s : Sl) (ss : List Sl) : putN (i :: is) (s :: ss) env = (env.put i s).bind fun e => putN is ss e := rfl
@[simp] theorem runO_no : runO Γ C .no env = some (none, env) := rfl
@[simp] theorem runO_so (a : IE) : runO Γ C (.so a) env = (hd a (runE Γ C a env) env).bind fun p => (p.1.get p.2).bind fun d => match d with
      | .int i => some (some i, p.2)
      | _ => none := rfl
@[simp] theorem runI_e (a : IE) : runI Γ C (.e a) env = (runE Γ C a env).bind fun p => match p.1.d with
      | .list ds => some (ds, p.2)
      | .tuple ds => some (ds, p.2)
      | _ => none := rfl
@[simp] theorem runI_r1 (a : IE) : runI Γ C (.r1 a) env = (hd a (runE Γ C a env) env).bind fun p => (p.1.get p.2).bind fun d => match d with
      | .int j => (rngO 0 j).bind fun ds => some (ds, p.2)
      | _ => none := rfl
@[simp] theorem runI_r2 (a b : IE) : runI Γ C (.r2 a b) env = (hd a (runE Γ C a env) env).bind fun p => (hd b (runE Γ C b p.2) p.2).bind fun q =>
      (p.1.get q.2).bind fun x => (q.1.get q.2).bind fun y => match x, y with
      | .int i, .int j => (rngO i j).bind fun ds => some (ds, q.2)
      | _, _ => none := rfl
@[simp] theorem runI_rd (a b : IE) : runI Γ C (.rd a b) env = (hd a (runE Γ C a env) env).bind fun p => (hd b (runE Γ C b p.2) p.2).bind fun q =>
      (p.1.get q.2).bind fun x => (q.1.get q.2).bind fun y => match x, y with
      | .int i, .int j => (dwnO i j).bind fun ds => some (ds, q.2)
      | _, _ => none := rfl
@[simp] theorem runI_zip (a b : IE) : runI Γ C (.zip a b) env = (runE Γ C a env).bind fun p => (runE Γ C b p.2).bind fun q => (seqD p.1.d).bind fun xs => (seqD q.1.d).bind fun ys => some (zipD xs ys, q.2) := rfl
@[simp] theorem runI_zip3 (a b c : IE) : runI Γ C (.zip3 a b c) env = (runE Γ C a env).bind fun p => (runE Γ C b p.2).bind fun q => (runE Γ C c q.2).bind fun r =>
      (seqD p.1.d).bind fun xs => (seqD q.1.d).bind fun ys => (seqD r.1.d).bind fun zs => some (zip3D xs ys zs, r.2) := rfl
@[simp] theorem seqD_l (xs : List PyData) : seqD (.list xs) = some xs := rfl
@[simp] theorem seqD_t (xs : List PyData) : seqD (.tuple xs) = some xs := rfl
@[simp] theorem runI_enum (a : IE) : runI Γ C (.enum a) env = (runE Γ C a env).bind fun p => match p.1.d with
      | .list ds => some (enumD 0 ds, p.2)
      | .tuple ds => some (enumD 0 ds, p.2)
      | _ => none := rfl
@[simp] theorem getL_nil : getL env [] = some [] := rfl
@[simp] theorem getL_cons (h : Hd) (r : List Hd) : getL env (h :: r) = (h.get env).bind fun d => (getL env r).bind fun ds => some (d :: ds) := rfl
@[simp] theorem getD_nil : getD [] = some [] := rfl
@[simp] theorem getD_cons (z : PyData) (r : List Hd) : getD (.d z :: r) = (getD r).bind fun ds => some (z :: ds) := rfl
@[simp] theorem getA_nil (k : Bool) : getA env k [] = some [] := by cases k <;> rfl
@[simp] theorem getA_d (k : Bool) (z : PyData) (r : List Hd) : getA env k (.d z :: r) = (getA env k r).bind fun ds => some (.v z :: ds) := by cases k <;> rfl
@[simp] theorem getA_so {i : Nat} {ds : List PyData} (r : List Hd) (h : env.at i = some (.o ds)) : getA env false (.s i :: r) = (getA env true r).bind fun l => some (.b ds :: l) := by
  show (match env.at i with
    | some (.o ds) => (getA env true r).bind fun l => some (Sl.b ds :: l)
    | some (.b ds) => (getA env true r).bind fun l => some (Sl.b ds :: l)
    | _ => none) = _
  rw [h]
@[simp] theorem getA_sb {i : Nat} {ds : List PyData} (r : List Hd) (h : env.at i = some (.b ds)) : getA env false (.s i :: r) = (getA env true r).bind fun l => some (.b ds :: l) := by
  show (match env.at i with
    | some (.o ds) => (getA env true r).bind fun l => some (Sl.b ds :: l)
    | some (.b ds) => (getA env true r).bind fun l => some (Sl.b ds :: l)
    | _ => none) = _
  rw [h]
@[simp] theorem lent_nil : lentS [] = none := rfl
@[simp] theorem lent_d (z : PyData) (r : List Hd) : lentS (.d z :: r) = lentS r := rfl
@[simp] theorem lent_s (i : Nat) (r : List Hd) : lentS (.s i :: r) = some i := rfl
theorem putA_none {hs : List Hd} (l : List PyData) (h : lentS hs = none) : putA env hs l = env := by
  unfold putA
  rw [h]
theorem putA_o {hs : List Hd} {i : Nat} {ds : List PyData} (l : List PyData) (h : lentS hs = some i) (h2 : env.at i = some (.o ds)) : putA env hs l = env.set i (some (.o l)) := by
  unfold putA
  rw [h]
  simp only [h2]
theorem putA_b {hs : List Hd} {i : Nat} {ds : List PyData} (l : List PyData) (h : lentS hs = some i) (h2 : env.at i = some (.b ds)) : putA env hs l = env.set i (some (.b l)) := by
  unfold putA
  rw [h]
  simp only [h2]
@[simp] theorem putA_dn (z : PyData) (r : List Hd) (l : List PyData) : putA env (.d z :: r) l = putA env r l := rfl
@[simp] theorem putA_nil (l : List PyData) : putA env [] l = env := rfl
@[simp] theorem putA_so {i : Nat} {ds : List PyData} (r : List Hd) (l : List PyData) (h : env.at i = some (.o ds)) : putA env (.s i :: r) l = env.set i (some (.o l)) := putA_o l rfl h
@[simp] theorem putA_sb {i : Nat} {ds : List PyData} (r : List Hd) (l : List PyData) (h : env.at i = some (.b ds)) : putA env (.s i :: r) l = env.set i (some (.b l)) := putA_b l rfl h
/-! statements -/
@[simp] theorem runS_set (i : Nat) (e : IE) : runS Γ C FU (.set i e) env = (runE Γ C e env).bind fun p => (p.2.put i p.1).bind fun env' => some (.nx env') := rfl
@[simp] theorem runS_tgt (gs : IGs) (e : IE) : runS Γ C FU (.tgt gs e) env = (runE Γ C e env).bind fun p => match p.1.d with
      | .tuple ds => (runGs gs ds p.2).bind fun env' => some (.nx env')
      | _ => none := rfl
@[simp] theorem runS_par2 (i j : Nat) (a b : IE) : runS Γ C FU (.par2 i j a b) env = (runE Γ C a env).bind fun p => (runE Γ C b p.2).bind fun q => (q.2.put i p.1).bind fun e1 => (e1.put j q.1).bind fun e2 => some (.nx e2) := rfl
@[simp] theorem runS_par3 (i j l : Nat) (a b c : IE) : runS Γ C FU (.par3 i j l a b c) env = (runE Γ C a env).bind fun p => (runE Γ C b p.2).bind fun q => (runE Γ C c q.2).bind fun w =>
      (w.2.put i p.1).bind fun e1 => (e1.put j q.1).bind fun e2 => (e2.put l w.1).bind fun e3 => some (.nx e3) := rfl
@[simp] theorem runS_parn (is : List Nat) (es : IL) : runS Γ C FU (.parn is es) env = (runR Γ C es env).bind fun p => (putN is p.1 p.2).bind fun e => some (.nx e) := rfl
theorem runS_six (i : Nat) (k e : IE) : runS Γ C FU (.six i k e) env = (runE Γ C e env).bind fun p => if mutAt p.2 i = true then (hd k (runE Γ C k p.2) p.2).bind fun q => (q.1.get q.2).bind fun y => match y with
      | .int z => (atS q.2 i).bind fun xs => (ixN xs.length z).bind fun j => (setS q.2 i (xs.set j p.1.d)).bind fun env' => some (.nx env')
      | _ => none
    else none := rfl
theorem runS_aug (i : Nat) (op : Operator) (e : IE) : runS Γ C FU (.aug i op e) env = (hd e (runE Γ C e env) env).bind fun p => match env.at i with
      | some (.v x) => (p.1.get p.2).bind fun y => (augD op x y).bind fun d => (p.2.put i (.v d)).bind fun env' => some (.nx env')
      | _ => none := rfl
theorem runS_aix (i : Nat) (k : IE) (op : Operator) (e : IE) : runS Γ C FU (.aix i k op e) env = if mutAt env i = true then (hd k (runE Γ C k env) env).bind fun p => (p.1.get p.2).bind fun y => match y with
      | .int z => (atS p.2 i).bind fun xs => (ixN xs.length z).bind fun j => (xs[j]?).bind fun old => (hd e (runE Γ C e p.2) p.2).bind fun q => (q.1.get q.2).bind fun w => (augD op old w).bind fun d =>
          (atS q.2 i).bind fun ys => (ixN ys.length z).bind fun j' => (setS q.2 i (ys.set j' d)).bind fun env' => some (.nx env')
      | _ => none
    else none := rfl
@[simp] theorem runS_ret (e : IE) : runS Γ C FU (.ret e) env = (runE Γ C e env).bind fun p => some (.rt p.1 p.2) := rfl
theorem runS_retx (i : Nat) : runS Γ C FU (.retx i) env = match env.at i with
      | some (.o ds) => some (.rt (.o ds) (env.set i none))
      | some (.w ds) => some (.rt (.w ds) (env.set i none))
      | some (.v d) => some (.rt (.v d) env)
      | _ => none := rfl
@[simp] theorem retx_v {i : Nat} {d : PyData} (h : env.at i = some (.v d)) : runS Γ C FU (.retx i) env = some (.rt (.v d) env) := by
  rw [runS_retx, h]
@[simp] theorem retx_o {i : Nat} {d : List PyData} (h : env.at i = some (.o d)) : runS Γ C FU (.retx i) env = some (.rt (.o d) (env.set i none)) := by
  rw [runS_retx, h]
@[simp] theorem runS_retn : runS Γ C FU .retn env = some (.rt (.v .none) env) := rfl
@[simp] theorem runS_ex (e : IE) : runS Γ C FU (.ex e) env = (runE Γ C e env).bind fun p => some (.nx p.2) := rfl
@[simp] theorem runS_cond (t : IT) (a b : IB) : runS Γ C FU (.cond t a b) env = (runT Γ C t env).bind fun p => if p.1 = true then runB Γ C FU a p.2 else runB Γ C FU b p.2 := rfl
theorem runS_for (g : IG) (it : II) (b : IB) (ws : List Nat) : runS Γ C FU (.for g it b ws) env = (runI Γ C it env).bind fun p => forD (fun d en => (runG g d en).bind fun en1 => (runB Γ C FU b en1).bind fun f => some (wipF ws f)) p.1 (wipeS p.2 ws) := rfl
theorem runS_wh (t : IT) (b : IB) (ws : List Nat) : runS Γ C FU (.wh t b ws) env = whileD (fun en => runT Γ C t en) (fun en => (runB Γ C FU b en).bind fun f => some (wipF ws f)) FU (wipeS env ws) := rfl
@[simp] theorem runS_brk : runS Γ C FU .brk env = some (.bk env) := rfl
@[simp] theorem runS_cnt : runS Γ C FU .cnt env = some (.ct env) := rfl
@[simp] theorem runS_pass : runS Γ C FU .pass env = some (.nx env) := rfl
@[simp] theorem runB_nil : runB Γ C FU .nil env = some (.nx env) := rfl
@[simp] theorem runB_cons (s : IS) (r : IB) : runB Γ C FU (.cons s r) env = (runS Γ C FU s env).bind fun f => match f with
    | .nx e => runB Γ C FU r e
    | .bk e => some (.bk e)
    | .ct e => some (.ct e)
    | .rt x e => some (.rt x e) := rfl
@[simp] theorem runG_n (i : Nat) (d : PyData) : runG (.n i) d env = env.put i (.v d) := rfl
@[simp] theorem runG_t (gs : IGs) (ds : List PyData) : runG (.t gs) (.tuple ds) env = runGs gs ds env := rfl
@[simp] theorem runGs_nil : runGs .nil [] env = some env := rfl
@[simp] theorem runGs_cons (g : IG) (r : IGs) (d : PyData) (ds : List PyData) : runGs (.cons g r) (d :: ds) env = (runG g d env).bind fun env' => runGs r ds env' := rfl
theorem rngO_ok {i j : Int} (h1 : -1000000000000 ≤ i) (h2 : i ≤ 1000000000000) (h3 : -1000000000000 ≤ j) (h4 : j ≤ 1000000000000) : rngO i j = some (rngD i (j - i).toNat) := if_pos ⟨log_of h1 h2, log_of h3 h4⟩
theorem rngO_n {i j : Int} {n : Nat} (h1 : -1000000000000 ≤ i) (h2 : i ≤ 1000000000000) (h3 : -1000000000000 ≤ j) (h4 : j ≤ 1000000000000) (hn : (j - i).toNat = n) : rngO i j = some (rngD i n) := by rw [rngO_ok h1 h2 h3 h4, hn]
theorem dwnO_n {i j : Int} {n : Nat} (h1 : -1000000000000 ≤ i) (h2 : i ≤ 1000000000000) (h3 : -1000000000000 ≤ j) (h4 : j ≤ 1000000000000) (hn : (i - j).toNat = n) : dwnO i j = some (dwnD i n) := by
  rw [← hn]
  exact if_pos ⟨log_of h1 h2, log_of h3 h4⟩
theorem lrgO_n {i j : Int} {n : Nat} (h1 : -1000000000000 ≤ i) (h2 : i ≤ 1000000000000) (h3 : -1000000000000 ≤ j) (h4 : j ≤ 1000000000000) (hn : (j - i).toNat = n) (h5 : n ≤ 10000000) : lrgO i j = some (rngD i n) := by
  rw [← hn]
  exact if_pos ⟨log_of h1 h2, log_of h3 h4, by omega⟩
/-! operations -/
@[simp] theorem add_ii (a b : Int) : binD .Add (.int a) (.int b) = some (.v (.int (a + b))) := rfl
@[simp] theorem sub_ii (a b : Int) : binD .Sub (.int a) (.int b) = some (.v (.int (a - b))) := rfl
@[simp] theorem mul_ii {a b : Int} (h : a.natAbs.log2 + b.natAbs.log2 < 1000000) : binD .Mult (.int a) (.int b) = some (.v (.int (a * b))) := if_pos h
@[simp] theorem mod_ii {a b : Int} (h : 0 < b) : binD .Mod (.int a) (.int b) = some (.v (.int (a % b))) := if_pos h
@[simp] theorem fdiv_ii {a b : Int} (h : 0 < b ∧ b.natAbs.log2 < 9000) : binD .FloorDiv (.int a) (.int b) = some (.v (.int (a / b))) := if_pos h
@[simp] theorem add_ll {a b : List PyData} (h : a.length + b.length ≤ sizeLine) : binD .Add (.list a) (.list b) = some (.o (a ++ b)) := if_pos h
@[simp] theorem add_tt {a b : List PyData} (h : a.length + b.length ≤ sizeLine) : binD .Add (.tuple a) (.tuple b) = some (.v (.tuple (a ++ b))) := if_pos h
@[simp] theorem aug_add (a b : Int) : augD .Add (.int a) (.int b) = some (.int (a + b)) := rfl
@[simp] theorem aug_sub (a b : Int) : augD .Sub (.int a) (.int b) = some (.int (a - b)) := rfl
@[simp] theorem tru_b (b : Bool) : truD (.bool b) = some b := rfl
@[simp] theorem tru_i (i : Int) : truD (.int i) = some (i != 0) := rfl
@[simp] theorem tru_n : truD .none = some false := rfl
@[simp] theorem tru_l (l : List PyData) : truD (.list l) = some (!l.isEmpty) := rfl
@[simp] theorem tru_t (l : List PyData) : truD (.tuple l) = some (!l.isEmpty) := rfl
@[simp] theorem lt_ii (a b : Int) : cmpD .Lt (.int a) (.int b) = some (decide (a < b)) := rfl
@[simp] theorem le_ii (a b : Int) : cmpD .LtE (.int a) (.int b) = some (decide (a ≤ b)) := rfl
@[simp] theorem gt_ii (a b : Int) : cmpD .Gt (.int a) (.int b) = some (decide (b < a)) := rfl
@[simp] theorem ge_ii (a b : Int) : cmpD .GtE (.int a) (.int b) = some (decide (b ≤ a)) := rfl
theorem eq_any {a b : PyData} (h : SeqAt.shaped a = true) (h' : SeqAt.shaped b = true) : cmpD .Eq a b = some (PyData.eqv a b) := by
  simp only [cmpD, h, h', and_self, if_true]
theorem ne_any {a b : PyData} (h : SeqAt.shaped a = true) (h' : SeqAt.shaped b = true) : cmpD .NotEq a b = some (!PyData.eqv a b) := by
  simp only [cmpD, h, h', and_self, if_true]
@[simp] theorem eq_ii (a b : Int) : cmpD .Eq (.int a) (.int b) = some (decide (a = b)) := by
  have h : cmpD .Eq (.int a) (.int b) = some (PyData.eqv (.int a) (.int b)) := eq_any rfl rfl
  rw [h]
  show some (a == b) = _
  exact congrArg some (Bool.beq_eq_decide_eq a b)
@[simp] theorem ne_ii (a b : Int) : cmpD .NotEq (.int a) (.int b) = some (!decide (a = b)) := by
  have h : cmpD .NotEq (.int a) (.int b) = some (!PyData.eqv (.int a) (.int b)) := ne_any rfl rfl
  rw [h]
  show some (!(a == b)) = _
  exact congrArg (fun t => some (!t)) (Bool.beq_eq_decide_eq a b)
theorem no_shd (ks : List (PyData × PyData)) : ¬ (SeqAt.shaped (.dict ks) = true ∧ SeqAt.shaped (.dict []) = true) := fun h => by
  have := shaped_nd h.1
  simp [PyData.hasDict] at this
@[simp] theorem eq_de (ks : List (PyData × PyData)) (hq : fnQ ks = false) : cmpD .Eq (.dict ks) (.dict []) = some ks.isEmpty := by
  simp [cmpD, if_neg (no_shd ks), hq]
@[simp] theorem ne_de (ks : List (PyData × PyData)) (hq : fnQ ks = false) : cmpD .NotEq (.dict ks) (.dict []) = some (!ks.isEmpty) := by
  simp [cmpD, if_neg (no_shd ks), hq]
@[simp] theorem isN_n : cmpD .Is .none .none = some true := rfl
@[simp] theorem isN_i (i : Int) : cmpD .Is (.int i) .none = some false := rfl
@[simp] theorem isN_t (i : List PyData) : cmpD .Is (.tuple i) .none = some false := rfl
@[simp] theorem isN_l (i : List PyData) : cmpD .Is (.list i) .none = some false := rfl
@[simp] theorem is_bb (a b : Bool) : cmpD .Is (.bool a) (.bool b) = some (decide (a = b)) := rfl
@[simp] theorem isNot_bb (a b : Bool) : cmpD .IsNot (.bool a) (.bool b) = some (!decide (a = b)) := rfl
@[simp] theorem isN_b (i : Bool) : cmpD .Is (.bool i) .none = some false := rfl
@[simp] theorem isN_s (i : Str) : cmpD .Is (.str i) .none = some false := rfl
@[simp] theorem isNN_b (i : Bool) : cmpD .IsNot (.bool i) .none = some true := rfl
@[simp] theorem isNN_s (i : Str) : cmpD .IsNot (.str i) .none = some true := rfl
@[simp] theorem isNN_n : cmpD .IsNot .none .none = some false := rfl
@[simp] theorem isNN_i (i : Int) : cmpD .IsNot (.int i) .none = some true := rfl
@[simp] theorem isNN_t (i : List PyData) : cmpD .IsNot (.tuple i) .none = some true := rfl
@[simp] theorem isNN_l (i : List PyData) : cmpD .IsNot (.list i) .none = some true := rfl
@[simp] theorem ix_l (xs : List PyData) (i : Int) : ixD (.list xs) (.int i) = atI xs i := rfl
@[simp] theorem ix_t (xs : List PyData) (i : Int) : ixD (.tuple xs) (.int i) = atI xs i := rfl
@[simp] theorem sl_l (xs : List PyData) (a b : Option Int) : slD (.list xs) a b = some (.o (cutL xs a b)) := rfl
@[simp] theorem sl_t (xs : List PyData) (a b : Option Int) : slD (.tuple xs) a b = some (.v (.tuple (cutL xs a b))) := rfl
@[simp] theorem rv_t (xs : List PyData) : rvD (.tuple xs) = some (.v (.tuple xs.reverse)) := rfl
@[simp] theorem rv_l (xs : List PyData) : rvD (.list xs) = some (.o xs.reverse) := rfl
@[simp] theorem fn_len_l (xs : List PyData) : fnD .len [.list xs] = some (.v (.int xs.length)) := rfl
@[simp] theorem fn_len_t (xs : List PyData) : fnD .len [.tuple xs] = some (.v (.int xs.length)) := rfl
@[simp] theorem fn_abs (i : Int) : fnD .abs [.int i] = some (.v (.int (if i < 0 then -i else i))) := rfl
@[simp] theorem fn_int (i : Int) : fnD .int [.int i] = some (.v (.int i)) := rfl
@[simp] theorem fn_intb (k : Bool) : fnD .int [.bool k] = some (.v (.int (if k then 1 else 0))) := rfl
@[simp] theorem fn_max (i j : Int) : fnD .max2 [.int i, .int j] = some (.v (.int (if j > i then j else i))) := rfl
@[simp] theorem fn_min (i j : Int) : fnD .min2 [.int i, .int j] = some (.v (.int (if j < i then j else i))) := rfl
@[simp] theorem fn_tl (xs : List PyData) : fnD .tuple [.list xs] = some (.v (.tuple xs)) := rfl
@[simp] theorem fn_tt (xs : List PyData) : fnD .tuple [.tuple xs] = some (.v (.tuple xs)) := rfl
@[simp] theorem fn_sum_l (xs : List PyData) : fnD .sum [.list xs] = (intsD xs).bind fun ns => some (.v (.int ns.sum)) := rfl
@[simp] theorem fn_sum_t (xs : List PyData) : fnD .sum [.tuple xs] = (intsD xs).bind fun ns => some (.v (.int ns.sum)) := rfl
@[simp] theorem fn_all (xs : List PyData) : fnD .all [.list xs] = (boolsD xs).bind fun bs => some (.v (.bool (bs.all id))) := rfl
@[simp] theorem fn_any (xs : List PyData) : fnD .any [.list xs] = (boolsD xs).bind fun bs => some (.v (.bool (bs.any id))) := rfl
@[simp] theorem fn_max1 (xs : List PyData) : fnD .max1 [.list xs] = (intsD xs).bind fun ns => (maxI ns).bind fun m => some (.v (.int m)) := rfl
@[simp] theorem fn_min1 (xs : List PyData) : fnD .min1 [.list xs] = (intsD xs).bind fun ns => (minI ns).bind fun m => some (.v (.int m)) := rfl
@[simp] theorem fn_max1t (xs : List PyData) : fnD .max1 [.tuple xs] = (intsD xs).bind fun ns => (maxI ns).bind fun m => some (.v (.int m)) := rfl
@[simp] theorem fn_min1t (xs : List PyData) : fnD .min1 [.tuple xs] = (intsD xs).bind fun ns => (minI ns).bind fun m => some (.v (.int m)) := rfl
@[simp] theorem fn_sorted (xs : List PyData) : fnD .sorted [.list xs] = (sortD xs).bind fun ys => some (.o ys) := rfl
@[simp] theorem fn_len_d (kvs : List (PyData × PyData)) (hq : fnQ kvs = false) : fnD .len [.dict kvs] = some (.v (.int kvs.length)) := if_neg (by rw [hq]; exact Bool.false_ne_true)
@[simp] theorem fn_ld (kvs : List (PyData × PyData)) (hq : fnQ kvs = false) : fnD .list [.dict kvs] = some (.o (kvs.map (·.1))) := if_neg (by rw [hq]; exact Bool.false_ne_true)
@[simp] theorem fn_dict (xs : List PyData) : fnD .dict [.list xs] = (prsD xs).bind fun kvs => some (.w (mergeD [] kvs)) := rfl
@[simp] theorem fn_str {i : Int} (h : i.natAbs.log2 < 60) : fnD .str [.int i] = some (.v (.str (toString i))) := if_pos h
@[simp] theorem fn_dm {i j : Int} (h : 0 < j ∧ j.natAbs.log2 < 29) : fnD .divmod [.int i, .int j] = some (.v (.tuple [.int (i / j), .int (i % j)])) := if_pos h
@[simp] theorem fn_ll (xs : List PyData) : fnD .list [.list xs] = some (.o xs) := rfl
@[simp] theorem fn_lt (xs : List PyData) : fnD .list [.tuple xs] = some (.o xs) := rfl
end
theorem atI_0 {α : Type} (x : α) (r : List α) : atI (x :: r) 0 = some x := atI_nat (j := 0) rfl
theorem atI_lit {α : Type} (xs : List α) (n : Nat) (h : n < xs.length) : atI xs ((n : Nat) : Int) = xs[n]? := by
  rw [atI_nat (List.getElem?_eq_getElem h), List.getElem?_eq_getElem h]
end PF

/-! PF16: the helpers that every law has: the bag of drawn numbers, the comparison. -/
namespace PF
open PySem L2
theorem lg {a : Nat} {k : Nat} (hk : 0 < k) (h : a < 2 ^ k) : a.log2 < k := by
  by_cases h0 : a = 0
  · subst h0
    exact hk
  · exact (Nat.log2_lt h0).mpr h
theorem mulB {a b : Int} (h : a.natAbs < 10 ^ 60) (h' : b.natAbs < 10 ^ 60) : binD .Mult (.int a) (.int b) = some (.v (.int (a * b))) := by
  have h1 : a.natAbs.log2 < 200 := lg (by decide) (Nat.lt_trans h (by decide))
  have h2 : b.natAbs.log2 < 200 := lg (by decide) (Nat.lt_trans h' (by decide))
  exact if_pos (by omega)
theorem fdivB {a b : Int} (h : 0 < b) (h' : b.natAbs < 10 ^ 60) : binD .FloorDiv (.int a) (.int b) = some (.v (.int (a / b))) := by
  have h2 : b.natAbs.log2 < 200 := lg (by decide) (Nat.lt_trans h' (by decide))
  exact if_pos ⟨h, by omega⟩
theorem modB {a b : Int} (h : 0 < b) : binD .Mod (.int a) (.int b) = some (.v (.int (a % b))) := if_pos h
theorem runFn_eq {Γ : Tab} {C : List (Str × PyData)} {FU : Nat} {f : Fn} {as : List Sl} (h : as.length = f.ps.length) : runFn Γ C FU f as = (runB Γ C FU f.body (startE f.N.length as)).bind fun fl => match fl with
    | .nx env => (outA as env).bind fun l => some (.v .none, l)
    | .rt r env => (outA as env).bind fun l => some (r, l)
    | _ => none := if_pos h
/-! a name's slot, cell by cell -/
def NB (t : Option Sl) : Prop := ∀ l, t ≠ some (.b l)
@[simp] theorem nb_n : NB none := fun _ h => nomatch h
@[simp] theorem nb_v (d : PyData) : NB (some (.v d)) := fun _ h => nomatch h
@[simp] theorem nb_o (d : List PyData) : NB (some (.o d)) := fun _ h => nomatch h
@[simp] theorem nb_w (d : List (PyData × PyData)) : NB (some (.w d)) := fun _ h => nomatch h
section
variable {t : Option Sl} {r : En}
@[simp] theorem put_0 (s : Sl) (h : NB t) : En.put (t :: r) 0 s = some (some s :: r) := by
  unfold En.put
  rw [at_zero]
  match t, h with
  | none, _ => rfl
  | some (.v _), _ => rfl
  | some (.o _), _ => rfl
  | some (.w _), _ => rfl
  | some (.b l), h => exact absurd rfl (h l)
@[simp] theorem put_1 (i : Nat) (s : Sl) : En.put (t :: r) (i + 1) s = (En.put r i s).map (t :: ·) := by
  unfold En.put
  rw [at_succ]
  cases h : En.at r i with
  | none => rfl
  | some w => cases w <;> rfl
@[simp] theorem use_0v (d : PyData) : useI (some (.v d) :: r) 0 = some (.v d, some (.v d) :: r) := rfl
@[simp] theorem use_0o (d : List PyData) : useI (some (.o d) :: r) 0 = some (.v (.list d), some (.v (.list d)) :: r) := rfl
@[simp] theorem use_1 (i : Nat) : useI (t :: r) (i + 1) = (useI r i).map fun p => (p.1, t :: p.2) := by
  unfold useI
  rw [at_succ]
  cases h : En.at r i with
  | none => rfl
  | some w => cases w <;> rfl
@[simp] theorem use_0w (d : List (PyData × PyData)) : useI (some (.w d) :: r) 0 = some (.v (.dict d), some (.v (.dict d)) :: r) := rfl
@[simp] theorem dct_0w (d : List (PyData × PyData)) : dctAt (some (.w d) :: r) 0 = some d := rfl
@[simp] theorem dct_0v (d : List (PyData × PyData)) (hq : fnQ d = false) : dctAt (some (.v (.dict d)) :: r) 0 = some d := if_neg (by rw [hq]; exact Bool.false_ne_true)
@[simp] theorem fnAt_1 {t : Option Sl} (i : Nat) (x : Str) : fnAt (t :: r) (i + 1) x = fnAt r i x := rfl
@[simp] theorem fnAt_0 (x y : Str) : fnAt (some (.v (fnDt y)) :: r) 0 x = decide (y = x) := rfl
@[simp] theorem dct_1 (i : Nat) : dctAt (t :: r) (i + 1) = dctAt r i := rfl
@[simp] theorem mut_0o (d : List PyData) : mutAt (some (.o d) :: r) 0 = true := rfl
@[simp] theorem mut_0b (d : List PyData) : mutAt (some (.b d) :: r) 0 = true := rfl
@[simp] theorem mut_1 (i : Nat) : mutAt (t :: r) (i + 1) = mutAt r i := rfl
@[simp] theorem atS_0o (d : List PyData) : atS (some (.o d) :: r) 0 = some d := rfl
@[simp] theorem atS_0b (d : List PyData) : atS (some (.b d) :: r) 0 = some d := rfl
@[simp] theorem atS_1 (i : Nat) : atS (t :: r) (i + 1) = atS r i := rfl
@[simp] theorem setS_0o (d e : List PyData) : setS (some (.o d) :: r) 0 e = some (some (.o e) :: r) := rfl
@[simp] theorem setS_0b (d e : List PyData) : setS (some (.b d) :: r) 0 e = some (some (.b e) :: r) := rfl
@[simp] theorem setS_1 (i : Nat) (e : List PyData) : setS (t :: r) (i + 1) e = (setS r i e).map (t :: ·) := by
  unfold setS
  rw [at_succ]
  cases h : En.at r i with
  | none => rfl
  | some w => cases w <;> rfl
end
/-! the bag -/
structure Bag where
  z : Int
  s : Int
  c : Int
  cells : List Int
def Bag.d (b : Bag) : List PyData := [.int b.z, .int b.s, .int b.c, .list (b.cells.map .int)]
structure Bag.Ok (b : Bag) (n : Nat) : Prop where
  s0 : 0 ≤ b.s
  s1 : b.s < 2147483647
  c0 : 0 ≤ b.c
  c1 : b.c ≤ n
  l : b.cells.length ≤ 63
theorem Bag.Ok.mono {b : Bag} {n m : Nat} (h : b.Ok n) (hm : n ≤ m) : b.Ok m := ⟨h.s0, h.s1, h.c0, Int.le_trans h.c1 (Int.ofNat_le.mpr hm), h.l⟩
def takeF : Fn := { name := "_law_take", ps := ["_law_bag_here", "_law_many"], N := ["_law_bag_here", "_law_many", "_law_begin", "_law_second", "_law_cell", "_law_stirred", "_law_value"], body := (.cons (.cond (.e (.cmp .Eq (.ix (.x 0) (.k (.int 0))) (.k (.int 0)))) (.cons (.set 4 (.ix (.bin .Add (.sl (.ix (.x 0) (.k (.int 3))) (.so (.ix (.x 0) (.k (.int 2)))) .no) (.lst (.cons (.k (.int 0)) .nil))) (.k (.int 0)))) (.cons (.aix 0 (.k (.int 2)) .Add (.k (.int 1))) (.cons (.cond (.e (.cmp .GtE (.x 4) (.bin .Pow (.k (.int 10)) (.k (.int 18))))) (.cons (.six 0 (.k (.int 0)) (.x 4)) .nil) .nil) (.cons (.set 5 (.bin .Add (.bin .Add (.bin .Mult (.ix (.x 0) (.k (.int 1))) (.k (.int 48271))) (.bin .Mod (.fn .int (.cons (.x 4) .nil)) (.k (.int 2147483647)))) (.bin .Mult (.k (.int 7919)) (.ix (.x 0) (.k (.int 2)))))) (.cons (.six 0 (.k (.int 1)) (.bin .Mod (.fn .int (.cons (.x 5) .nil)) (.k (.int 2147483647)))) .nil))))) .nil) (.cons (.cond (.e (.cmp .Gt (.ix (.x 0) (.k (.int 0))) (.k (.int 0)))) (.cons (.set 6 (.bin .Mod (.fn .int (.cons (.ix (.x 0) (.k (.int 0))) .nil)) (.x 1))) (.cons (.six 0 (.k (.int 0)) (.bin .FloorDiv (.fn .int (.cons (.ix (.x 0) (.k (.int 0))) .nil)) (.x 1))) (.cons (.retx 6) .nil))) .nil) (.cons (.set 2 (.bin .Mod (.fn .int (.cons (.bin .Mult (.bin .Add (.ix (.x 0) (.k (.int 1))) (.k (.int 1))) (.k (.int 39373))) .nil)) (.k (.int 1000000007)))) (.cons (.set 3 (.bin .Mod (.fn .int (.cons (.bin .Mult (.bin .Mod (.fn .int (.cons (.bin .Mult (.x 2) (.x 2)) .nil)) (.k (.int 998244353))) (.k (.int 30011))) .nil)) (.k (.int 998244353)))) (.cons (.ret (.bin .Mod (.fn .int (.cons (.bin .FloorDiv (.x 3) (.k (.int 7))) .nil)) (.x 1))) .nil))))) }
theorem cut_0 (xs : List Int) (c : Option Int) : ∃ v : Int, atI (cutL (xs.map PyData.int) c none ++ [.int 0]) 0 = some (.int v) := by
  have e : cutL (xs.map PyData.int) c none = (cutL xs c none).map PyData.int := by
    unfold cutL
    rw [← List.map_drop, ← List.map_take, List.length_map]
  rw [e]
  cases cutL xs c none with
  | nil => exact ⟨0, atI_0 _ _⟩
  | cons v r => exact ⟨v, atI_0 _ _⟩
theorem cut_len {α : Type} (xs : List α) (a b : Option Int) : (cutL xs a b).length ≤ xs.length := by
  unfold cutL
  simp only [List.length_take, List.length_drop]
  omega
theorem ixN3 (n : Nat) (i : Int) (h0 : 0 ≤ i) (h : i < n) : ixN n i = some i.toNat := by
  unfold ixN
  simp [h0, h]
theorem take_run {Γ : Tab} {C : List (Str × PyData)} {FU : Nat} (b : Bag) (m : Int) (n : Nat) (h : b.Ok n) (hn : n ≤ 10 ^ 9) (hm : 0 < m) (hm2 : m.natAbs < 10 ^ 60) :
    ∃ (r : Int) (b' : Bag), runFn Γ C FU takeF [.b b.d, .v (.int m)] = some (.v (.int r), b'.d) ∧ 0 ≤ r ∧ r < m ∧ b'.Ok (n + 1) := by
  obtain ⟨z, s, c, cells⟩ := b
  obtain ⟨s0, s1, c0, c1, l⟩ := h
  simp only at s0 s1 c0 c1 l
  obtain ⟨v, ev⟩ := cut_0 cells (some c)
  have hL : (cutL (cells.map PyData.int) (some c) none).length + 1 ≤ sizeLine := by
    have h1 := cut_len (cells.map PyData.int) (some c) none
    rw [List.length_map] at h1
    have h2 : (64 : Nat) ≤ sizeLine := by decide
    omega
  have x1 : binD .Mult (.int s) (.int 48271) = some (.v (.int (s * 48271))) := mulB (by omega) (by decide)
  have x2 : binD .Mult (.int 7919) (.int (c + 1)) = some (.v (.int (7919 * (c + 1)))) := mulB (by decide) (by omega)
  have x3 (w : Int) : binD .Mod (.int w) (.int 2147483647) = some (.v (.int (w % 2147483647))) := modB (by decide)
  have x4 (w : Int) : binD .Mod (.int w) (.int m) = some (.v (.int (w % m))) := modB hm
  have x5 (w : Int) : binD .FloorDiv (.int w) (.int m) = some (.v (.int (w / m))) := fdivB hm hm2
  have x6 : binD .Pow (.int 10) (.int 18) = some (.v (.int (10 ^ 18))) := rfl
  have x7 : binD .Add (.list (cutL (cells.map PyData.int) (some c) none)) (.list [.int 0]) = some (.o (cutL (cells.map PyData.int) (some c) none ++ [.int 0])) := if_pos hL
  have y1 (w : Int) (h0 : 0 ≤ w) (h1 : w < 2147483647) : binD .Mult (.int (w + 1)) (.int 39373) = some (.v (.int ((w + 1) * 39373))) := mulB (by omega) (by decide)
  have y2 (w : Int) : binD .Mult (.int (w % 1000000007)) (.int (w % 1000000007)) = some (.v (.int ((w % 1000000007) * (w % 1000000007)))) := mulB (by omega) (by omega)
  have y3 (w : Int) : binD .Mult (.int (w % 998244353)) (.int 30011) = some (.v (.int (w % 998244353 * 30011))) := mulB (by omega) (by decide)
  have x8 (w : Int) : binD .Mod (.int w) (.int 1000000007) = some (.v (.int (w % 1000000007))) := modB (by decide)
  have x9 (w : Int) : binD .Mod (.int w) (.int 998244353) = some (.v (.int (w % 998244353))) := modB (by decide)
  have xa (w : Int) : binD .FloorDiv (.int w) (.int 7) = some (.v (.int (w / 7))) := fdivB (by decide) (by decide)
  have i0 (a b c d : PyData) : atI [a, b, c, d] 0 = some a := rfl
  have i1 (a b c d : PyData) : atI [a, b, c, d] 1 = some b := rfl
  have i2 (a b c d : PyData) : atI [a, b, c, d] 2 = some c := rfl
  have i3 (a b c d : PyData) : atI [a, b, c, d] 3 = some d := rfl
  have j0 : ixN 4 0 = some 0 := rfl
  have j1 : ixN 4 1 = some 1 := rfl
  have j2 : ixN 4 2 = some 2 := rfl
  have S1 : (1 : Nat) ≤ sizeLine := by decide
  rw [runFn_eq rfl]
  show ∃ (r : Int) (b' : Bag), (runB Γ C FU takeF.body [some (.b [.int z, .int s, .int c, .list (cells.map .int)]), some (.v (.int m)), none, none, none, none, none]).bind _ = _ ∧ _
  by_cases hz : z = 0
  · subst hz
    by_cases hv : (1000000000000000000 : Int) ≤ v
    · have hv0 : (0 : Int) < v := Int.lt_of_lt_of_le (by decide) hv
      refine ⟨v % m, ⟨v / m, (s * 48271 + v % 2147483647 + 7919 * (c + 1)) % 2147483647, c + 1, cells⟩, ?_, Int.emod_nonneg _ (by omega), Int.emod_lt_of_pos _ hm, ⟨Int.emod_nonneg _ (by decide), Int.emod_lt_of_pos _ (by decide), ?_, ?_, l⟩⟩
      · simp [takeF, runS_aix, runS_six, runS_retx, x1, x2, x3, x4, x5, x6, x7, ev, hv, hv0, i0, i1, i2, i3, j0, j1, j2, S1, Bag.d, outA]
      · show 0 ≤ c + 1
        omega
      · show c + 1 ≤ ((n + 1 : Nat) : Int)
        omega
    · refine ⟨((((s * 48271 + v % 2147483647 + 7919 * (c + 1)) % 2147483647 + 1) * 39373 % 1000000007) * (((s * 48271 + v % 2147483647 + 7919 * (c + 1)) % 2147483647 + 1) * 39373 % 1000000007) % 998244353 * 30011 % 998244353 / 7) % m, ⟨0, (s * 48271 + v % 2147483647 + 7919 * (c + 1)) % 2147483647, c + 1, cells⟩, ?_, Int.emod_nonneg _ (by omega), Int.emod_lt_of_pos _ hm, ⟨Int.emod_nonneg _ (by decide), Int.emod_lt_of_pos _ (by decide), ?_, ?_, l⟩⟩
      · have g1 := y1 ((s * 48271 + v % 2147483647 + 7919 * (c + 1)) % 2147483647) (Int.emod_nonneg _ (by decide)) (Int.emod_lt_of_pos _ (by decide))
        simp [takeF, runS_aix, runS_six, runS_retx, x1, x2, x3, x4, x5, x6, x7, x8, x9, xa, g1, y2, y3, ev, hv, i0, i1, i2, i3, j0, j1, j2, S1, Bag.d, outA]
      · show 0 ≤ c + 1
        omega
      · show c + 1 ≤ ((n + 1 : Nat) : Int)
        omega
  · by_cases hz1 : 0 < z
    · refine ⟨z % m, ⟨z / m, s, c, cells⟩, ?_, Int.emod_nonneg _ (by omega), Int.emod_lt_of_pos _ hm, ⟨s0, s1, c0, by show c ≤ ((n + 1 : Nat) : Int); omega, l⟩⟩
      simp [takeF, runS_aix, runS_six, runS_retx, x4, x5, hz, hz1, i0, i1, i2, i3, j0, j1, j2, S1, Bag.d, outA]
    · refine ⟨(((s + 1) * 39373 % 1000000007) * ((s + 1) * 39373 % 1000000007) % 998244353 * 30011 % 998244353 / 7) % m, ⟨z, s, c, cells⟩, ?_, Int.emod_nonneg _ (by omega), Int.emod_lt_of_pos _ hm, ⟨s0, s1, c0, by show c ≤ ((n + 1 : Nat) : Int); omega, l⟩⟩
      have g1 := y1 s s0 s1
      simp [takeF, runS_aix, runS_six, runS_retx, x4, x5, x8, x9, xa, g1, y2, y3, hz, hz1, i0, i1, i2, i3, j0, j1, j2, S1, Bag.d, outA]
end PF

/-! PF17: loops by what they keep; the other helpers. -/
namespace PF
open PySem L2
theorem forD_keep {body : PyData → En → Option Fl} (I : Nat → En → Prop) : ∀ (ds : List PyData) (k : Nat) (env : En), I k env →
    (∀ i (hi : i < ds.length) e, I (k + i) e → ∃ e', body ds[i] e = some (.nx e') ∧ I (k + i + 1) e') → ∃ e, forD body ds env = some (.nx e) ∧ I (k + ds.length) e
  | [], k, env, h, _ => ⟨env, rfl, h⟩
  | d :: r, k, env, h, H => by
    obtain ⟨e1, h1, h2⟩ := H 0 (by simp) env h
    obtain ⟨e2, h3, h4⟩ := forD_keep I r (k + 1) e1 h2 (fun i hi e he => by
      have := H (i + 1) (by simp; omega) e (by rw [show k + (i + 1) = k + 1 + i by omega]; exact he)
      rw [show k + (i + 1) + 1 = k + 1 + i + 1 by omega] at this
      exact this)
    refine ⟨e2, ?_, by rw [List.length_cons, show k + (r.length + 1) = k + 1 + r.length by omega]; exact h4⟩
    show (body d env).bind _ = _
    rw [show body d env = some (.nx e1) from h1]
    exact h3
theorem forD_rng {body : PyData → En → Option Fl} (I : Nat → En → Prop) (lo : Int) (n : Nat) (env : En) (h : I 0 env)
    (H : ∀ i, i < n → ∀ e, I i e → ∃ e', body (.int (lo + i)) e = some (.nx e') ∧ I (i + 1) e') : ∃ e, forD body (rngD lo n) env = some (.nx e) ∧ I n e := by
  have hl : (rngD lo n).length = n := by simp [rngD]
  obtain ⟨e, h1, h2⟩ := forD_keep I (rngD lo n) 0 env h (fun i hi e he => by
    rw [Nat.zero_add] at he ⊢
    have e1 : (rngD lo n)[i] = .int (lo + i) := by simp [rngD]
    rw [e1]
    exact H i (hl ▸ hi) e he)
  rw [Nat.zero_add, hl] at h2
  exact ⟨e, h1, h2⟩
theorem compD_map {turn : PyData → En → Option (Option PyData × En)} (f : PyData → PyData) (env : En) : ∀ ds : List PyData, (∀ d ∈ ds, turn d env = some (some (f d), env)) → compD turn ds env = some (ds.map f, env)
  | [], _ => rfl
  | d :: r, h => by
    have ih := compD_map f env r (fun x hx => h x (List.mem_cons_of_mem _ hx))
    show (turn d env).bind _ = _
    rw [h d (List.mem_cons_self ..)]
    show (compD turn r env).bind _ = _
    rw [ih]
    rfl
def bagF : Fn := { name := "_law_bag", ps := ["_law_script"], N := ["_law_script", "_law_cell"], body := (.cons (.ret (.lst (.cons (.k (.int 0)) (.cons (.k (.int 1234567891)) (.cons (.k (.int 0)) (.cons (.lc [("_law_cell", 1)] (.n 1) (.e (.sl (.x 0) .no (.so (.k (.int 63))))) .yes (.fn .abs (.cons (.x 1) .nil))) .nil)))))) .nil) }
def absD : PyData → PyData
  | .int i => .int (if i < 0 then -i else i)
  | d => d
def bag0 (ns : List Int) : Bag := ⟨0, 1234567891, 0, ns.map fun i => if i < 0 then -i else i⟩
theorem bag0_ok (ns : List Int) (h : ns.length ≤ 63) : (bag0 ns).Ok 0 := ⟨by simp [bag0], by simp [bag0], by simp [bag0], by simp [bag0], by simpa [bag0] using h⟩
theorem cut_all {α : Type} (xs : List α) (h : xs.length ≤ 63) : cutL xs none (some 63) = xs := by
  have e : HT.sIx xs.length xs.length (some 63) = xs.length := by
    show (if (63 : Int) < 0 then ((63 : Int) + (xs.length : Int)).toNat else min (63 : Int).toNat xs.length) = _
    rw [if_neg (by decide)]
    show min 63 xs.length = _
    omega
  unfold cutL
  rw [e]
  simp [HT.sIx]
theorem bag_run {Γ : Tab} {C : List (Str × PyData)} {FU : Nat} (ns : List Int) (h : ns.length ≤ 63) : runFn Γ C FU bagF [.v (.list (ns.map .int))] = some (.o (bag0 ns).d, []) := by
  rw [runFn_eq rfl]
  show (runB Γ C FU bagF.body [some (.v (.list (ns.map .int))), none]).bind _ = _
  have e1 : cutL (ns.map PyData.int) none (some 63) = ns.map PyData.int := cut_all _ (by simpa using h)
  have e2 : compD (lcTurn Γ C [("_law_cell", 1)] (.n 1) .yes (.fn .abs (.cons (.x 1) .nil))) (ns.map .int) [some (.v (.list (ns.map .int))), none] = some ((ns.map PyData.int).map absD, [some (.v (.list (ns.map .int))), none]) := by
    apply compD_map
    intro d hd
    obtain ⟨i, _, rfl⟩ := List.mem_map.mp hd
    rfl
  have e3 : (ns.map PyData.int).length ≤ sizeLine := by
    rw [List.length_map]
    have : (63 : Nat) ≤ sizeLine := by decide
    omega
  have e4 : (4 : Nat) ≤ sizeLine := by decide
  simp [bagF, runE_lc, noOwn, wipeE, backE, e1]
  erw [e2]
  have e5 : (ns.map PyData.int).map absD = (bag0 ns).cells.map PyData.int := by
    simp [bag0, absD]
  simp only [e5]
  have e6 : (bag0 ns).cells.length ≤ sizeLine := by simpa [bag0] using e3
  simp [e6, e4, outA, Bag.d]
  exact ⟨rfl, rfl, rfl⟩
/-! equal data are alike -/
mutual
theorem short_of_show : ∀ d : PyData, d.showable = true → d.intsShort 1921 = true
  | .none, _ => rfl
  | .bool _, _ => rfl
  | .str _, _ => rfl
  | .dict _, _ => rfl
  | .int i, h => by
    have h1 : i.natAbs.log2 < 1920 := by simpa [PyData.showable] using h
    have h2 : (PyData.shown (.int i)).length ≤ 1921 := PyProof.Rows.int_text_len_1921 h1
    simpa [PyData.intsShort] using h2
  | .list xs, h => by
    have := short_of_showAll xs (by simpa [PyData.showable] using h)
    simpa [PyData.intsShort] using this
  | .tuple xs, h => by
    have := short_of_showAll xs (by simpa [PyData.showable] using h)
    simpa [PyData.intsShort] using this
theorem short_of_showAll : ∀ xs : List PyData, PyData.showableAll xs = true → PyData.intsShortAll 1921 xs = true
  | [], _ => rfl
  | x :: r, h => by
    have h' : x.showable = true ∧ PyData.showableAll r = true := by simpa [PyData.showableAll] using h
    have h1 := short_of_show x h'.1
    have h2 := short_of_showAll r h'.2
    simp [PyData.intsShortAll, h1, h2]
end
theorem ok_app {x y : Str} (h : PyData.strOk x = true) (h' : PyData.strOk y = true) : PyData.strOk (x ++ y) = true := by
  have h : x.cps.all (· < 0x110000) = true := h
  have h' : y.cps.all (· < 0x110000) = true := h'
  show (x.cps ++ y.cps).all (· < 0x110000) = true
  rw [Array.all_append, h, h']
  rfl
theorem ok_join {s : Str} (hs : PyData.strOk s = true) : ∀ ts : List Str, (∀ t ∈ ts, PyData.strOk t = true) → PyData.strOk (Str.join s ts) = true
  | [], _ => by
    have e : Str.join s [] = Str.ofString "" := rfl
    rw [e]
    decide +kernel
  | [x], h => h x (by simp)
  | x :: y :: r, h => by
    have ih := ok_join hs (y :: r) (fun t ht => h t (List.mem_cons_of_mem _ ht))
    show PyData.strOk (x ++ s ++ Str.join s (y :: r)) = true
    exact ok_app (ok_app (h x (by simp)) hs) ih
mutual
def nost : PyData → Bool
  | .none => true
  | .bool _ => true
  | .int _ => true
  | .str s => PyData.strOk (PyData.shown (.str s))
  | .list xs => nostA xs
  | .tuple xs => nostA xs
  | .dict _ => false
def nostA : List PyData → Bool
  | [] => true
  | x :: r => nost x && nostA r
end
theorem ok_int (i : Int) : PyData.strOk (PyData.shown (.int i)) = true := by
  show (Str.ofString (toString i)).cps.all (· < 0x110000) = true
  rw [Str.ofString_eq_toList]
  simp only [List.all_toArray, List.all_map, List.all_eq_true]
  intro c hc
  have := int_ascii i c hc
  simp only [Function.comp, decide_eq_true_eq]
  omega
mutual
theorem ok_show : ∀ d : PyData, nost d = true → PyData.strOk d.shown = true
  | .none, _ => by decide +kernel
  | .bool true, _ => by decide +kernel
  | .bool false, _ => by decide +kernel
  | .int i, _ => ok_int i
  | .str s, h => by
    unfold nost at h
    exact h
  | .list xs, h => by
    rw [PyData.shown_list]
    exact ok_app (ok_app (by decide +kernel) (ok_join (by decide +kernel) _ (ok_showA xs (by simpa [nost] using h)))) (by decide +kernel)
  | .tuple xs, h => by
    rw [PyData.shown_tuple]
    refine ok_app (ok_app (by decide +kernel) (ok_join (by decide +kernel) _ (ok_showA xs (by simpa [nost] using h)))) ?_
    split <;> decide +kernel
theorem ok_showA : ∀ xs : List PyData, nostA xs = true → ∀ t ∈ PyData.shownAll xs, PyData.strOk t = true
  | [], _ => fun t ht => by simp [PyData.shownAll] at ht
  | x :: r, h => by
    have h' : nost x = true ∧ nostA r = true := by simpa [nostA] using h
    intro t ht
    rw [PyData.shownAll_cons] at ht
    rcases List.mem_cons.mp ht with e | e
    · subst e
      exact ok_show x h'.1
    · exact ok_showA r h'.2 t e
end
structure Alk (d : PyData) : Prop where
  lay : d.canLay0 = true
  sh : d.showable = true
  dp : d.depth ≤ 60
  bk : d.bulk ≤ 8000
  ns : nost d = true
def alikeF : Fn := { name := "_law_alike", ps := ["_law_found", "_law_due"], N := ["_law_found", "_law_due"], body := (.cons (.ret (.and (.cmp .Eq (.x 0) (.x 1)) (.cmp .Eq (.fn .repr (.cons (.x 0) .nil)) (.fn .repr (.cons (.x 1) .nil))))) .nil) }
theorem alike_run {Γ : Tab} {C : List (Str × PyData)} {FU : Nat} {d : PyData} (h : Alk d) : runFn Γ C FU alikeF [.v d, .v d] = some (.v (.bool true), []) := by
  have s1 : SeqAt.shaped d = true := by
    have := h.dp
    simp [SeqAt.shaped, h.lay]
    omega
  have e1 : cmpD .Eq d d = some true := by
    rw [eq_any s1 s1, SeqAt.eqv_refl d h.lay]
  have l1 := PyData.shown_le_bulk 1921 (by decide +kernel) d (PyData.leavesShort_of_canLay0 _ d h.lay (short_of_show d h.sh))
  have l2 : d.shown.length ≤ sizeLine := by
    have := h.bk
    have : (16777216 : Nat) = sizeLine := rfl
    omega
  have e2 : fnD .repr [d] = some (.v (.str d.shown)) := if_pos ⟨h.sh, l2, (.inl (PyData.hasDict_of_canLay d h.lay)), h.dp⟩
  have s2 : SeqAt.shaped (.str d.shown) = true := by
    simp [SeqAt.shaped, PyData.canLay0, PyData.depth, ok_show d h.ns]
  have e3 : cmpD .Eq (.str d.shown) (.str d.shown) = some true := by
    rw [eq_any s2 s2]
    simp [PyData.eqv]
  rw [runFn_eq rfl]
  show (runB Γ C FU alikeF.body [some (.v d), some (.v d)]).bind _ = _
  simp [alikeF, e1, e2, e3, outA]
theorem ints_parts : ∀ l : List Int, (∀ i ∈ l, i.natAbs.log2 < 1920) → PyData.canLayAll0 (l.map .int) = true ∧ PyData.showableAll (l.map .int) = true ∧ PyData.depthAll (l.map .int) = 0 ∧ PyData.bulkAll (l.map .int) = l.length ∧ nostA (l.map .int) = true
  | [], _ => ⟨rfl, rfl, rfl, rfl, rfl⟩
  | i :: r, h => by
    obtain ⟨h1, h2, h3, h4, h5⟩ := ints_parts r (fun x hx => h x (List.mem_cons_of_mem _ hx))
    have h0 := h i (by simp)
    simp [PyData.canLayAll0, PyData.canLay0, PyData.showableAll, PyData.showable, PyData.depthAll, PyData.depth, PyData.bulkAll, PyData.bulk, nostA, nost, h0, h1, h2, h3, h4, h5]
    omega
theorem alk_ints (l : List Int) (h : ∀ i ∈ l, i.natAbs.log2 < 1920) (hl : l.length ≤ 4000) : Alk (.list (l.map .int)) := by
  obtain ⟨h1, h2, h3, h4, h5⟩ := ints_parts l h
  exact ⟨by simp [PyData.canLay0, h1], by simp [PyData.showable, h2], by simp [PyData.depth, h3], by simp [PyData.bulk, h4]; omega, by simp [nost, h5]⟩
theorem alk_ints_t (l : List Int) (h : ∀ i ∈ l, i.natAbs.log2 < 1920) (hl : l.length ≤ 4000) : Alk (.tuple (l.map .int)) := by
  obtain ⟨h1, h2, h3, h4, h5⟩ := ints_parts l h
  exact ⟨by simp [PyData.canLay0, h1], by simp [PyData.showable, h2], by simp [PyData.depth, h3], by simp [PyData.bulk, h4]; omega, by simp [nost, h5]⟩
theorem lg_int {i : Int} (h : i.natAbs < 10 ^ 60) : i.natAbs.log2 < 1920 := by
  have h1 : i.natAbs.log2 < 200 := lg (by decide) (Nat.lt_trans h (by decide))
  omega
end PF

/-! PF18: greatest common divisors, fractions in lowest terms. -/
namespace PF
open PySem L2
theorem gcd_loop {c : En → Option (Bool × En)} {body : En → Option Fl} (mk : Int → Int → En) (hc0 : ∀ a, c (mk a 0) = some (false, mk a 0)) (hc : ∀ a b : Int, 0 < b → c (mk a b) = some (true, mk a b))
    (hb : ∀ a b : Int, 0 ≤ a → 0 < b → body (mk a b) = some (.nx (mk b (a % b)))) : ∀ (b a F : Nat), b < F → whileD c body F (mk a b) = some (.nx (mk (Nat.gcd a b) 0)) := by
  intro b
  induction b using Nat.strongRecOn with
  | _ b ih =>
    intro a F hF
    obtain ⟨F, rfl⟩ : ∃ G, F = G + 1 := ⟨F - 1, by omega⟩
    show (c (mk a b)).bind _ = _
    by_cases h0 : b = 0
    · subst h0
      rw [show ((0 : Nat) : Int) = 0 from rfl, hc0, Nat.gcd_zero_right]
      rfl
    · have hp : 0 < b := Nat.pos_of_ne_zero h0
      rw [hc a b (by omega)]
      show (body (mk a b)).bind _ = _
      rw [hb a b (by omega) (by omega)]
      have hl : a % b < b := Nat.mod_lt _ hp
      have e : ((a : Int) % (b : Int)) = ((a % b : Nat) : Int) := rfl
      have g : Nat.gcd a b = Nat.gcd b (a % b) := by
        rw [Nat.gcd_comm a b, Nat.gcd_rec b a, Nat.gcd_comm]
      rw [e, g]
      exact ih (a % b) hl b F (by omega)
theorem posR {g y : Int} (h : 0 < g * y) (hg : 0 < g) : 0 < y := by
  by_cases z : 0 < y
  · exact z
  · have : g * y ≤ g * 0 := Int.mul_le_mul_of_nonneg_left (by omega) (by omega)
    rw [Int.mul_zero] at this
    omega
theorem dvdR {y x v : Int} (h : y ∣ x * v) (c : Int.gcd y x = 1) : y ∣ v := by
  have h1 : y.natAbs ∣ x.natAbs * v.natAbs := by
    rw [← Int.natAbs_mul]
    exact Int.natAbs_dvd_natAbs.mpr h
  exact Int.natAbs_dvd_natAbs.mp (Nat.Coprime.dvd_of_dvd_mul_left c h1)
def redI (n d : Int) : Int × Int := (n.fdiv (if 0 < d then (Int.gcd n d : Int) else -(Int.gcd n d : Int)), d.fdiv (if 0 < d then (Int.gcd n d : Int) else -(Int.gcd n d : Int)))
/-- in lowest terms -/
structure Red (p : Int × Int) : Prop where
  pos : 0 < p.2
  cop : Int.gcd p.1 p.2 = 1
theorem redI_is {n d : Int} (h : d ≠ 0) : ∃ e x y : Int, e ≠ 0 ∧ n = e * x ∧ d = e * y ∧ redI n d = (x, y) ∧ Red (x, y) ∧ e.natAbs = Int.gcd n d ∧ (if 0 < d then (Int.gcd n d : Int) else -(Int.gcd n d : Int)) = e := by
  have hg : (Int.gcd n d : Int) ≠ 0 := by
    intro z
    have := Int.gcd_eq_zero_iff.mp (Int.ofNat.inj z)
    exact h this.2
  obtain ⟨x0, hx⟩ := Int.gcd_dvd_left (a := n) (b := d)
  obtain ⟨y0, hy⟩ := Int.gcd_dvd_right (a := n) (b := d)
  have key : ∀ e x y : Int, e ≠ 0 → e.natAbs = Int.gcd n d → n = e * x → d = e * y → 0 < y → (if 0 < d then (Int.gcd n d : Int) else -(Int.gcd n d : Int)) = e → ∃ e x y : Int, e ≠ 0 ∧ n = e * x ∧ d = e * y ∧ redI n d = (x, y) ∧ Red (x, y) ∧ e.natAbs = Int.gcd n d ∧ (if 0 < d then (Int.gcd n d : Int) else -(Int.gcd n d : Int)) = e := by
    intro e x y he ha h1 h2 h3 h4
    refine ⟨e, x, y, he, h1, h2, ?_, ⟨h3, ?_⟩, ha, h4⟩
    · unfold redI
      rw [h4]
      have a1 : n.fdiv e = x := by
        rw [h1]
        exact Int.mul_fdiv_cancel_left _ he
      have a2 : d.fdiv e = y := by
        rw [h2]
        exact Int.mul_fdiv_cancel_left _ he
      rw [a1, a2]
    · have a1 : Int.gcd n d = e.natAbs * Int.gcd x y := by
        rw [h1, h2, Int.gcd_mul_left]
      rw [← ha] at a1
      have a2 : 0 < e.natAbs := Int.natAbs_pos.mpr he
      exact (Nat.eq_of_mul_eq_mul_left a2 (by omega : e.natAbs * 1 = e.natAbs * Int.gcd x y)).symm
  by_cases hd : 0 < d
  · refine key (Int.gcd n d) x0 y0 hg rfl hx hy ?_ (if_pos hd)
    have g0 : (0 : Int) < Int.gcd n d := by omega
    rw [hy] at hd
    exact posR hd g0
  · refine key (-(Int.gcd n d : Int)) (-x0) (-y0) (by omega) (by omega) (by rw [Int.neg_mul_neg]; exact hx) (by rw [Int.neg_mul_neg]; exact hy) ?_ (if_neg hd)
    have g0 : (0 : Int) < Int.gcd n d := by omega
    have hn : 0 < (Int.gcd n d : Int) * (-y0) := by
      rw [Int.mul_neg, ← hy]
      omega
    exact posR hn g0
theorem red_uniq {p q : Int × Int} (hp : Red p) (hq : Red q) (h : p.1 * q.2 = q.1 * p.2) : p = q := by
  obtain ⟨x, y⟩ := p
  obtain ⟨u, v⟩ := q
  have p0 := hp.pos
  have q0 := hq.pos
  have pc := hp.cop
  have qc := hq.cop
  simp only at *
  have h1 : y ∣ v := by
    have : y ∣ x * v := ⟨u, by rw [h, Int.mul_comm]⟩
    exact dvdR this (by rw [Int.gcd_comm]; exact pc)
  have h2 : v ∣ y := by
    have : v ∣ u * y := ⟨x, by rw [← h, Int.mul_comm]⟩
    exact dvdR this (by rw [Int.gcd_comm]; exact qc)
  have h3 : y = v := Int.le_antisymm (Int.le_of_dvd q0 h1) (Int.le_of_dvd p0 h2)
  subst h3
  have h4 : x = u := Int.eq_of_mul_eq_mul_right (by omega) h
  rw [h4]
theorem red_self {p : Int × Int} (h : Red p) : redI p.1 p.2 = p := by
  unfold redI
  rw [if_pos h.pos, h.cop]
  simp
/-! sizes -/
/-- fewer than k + 1 digits -/
def Bd (k : Nat) (a : Int) : Prop := a.natAbs < 10 ^ k
theorem Bd.mono {k m : Nat} {a : Int} (h : Bd k a) (hm : k ≤ m) : Bd m a := Nat.lt_of_lt_of_le h (Nat.pow_le_pow_right (by decide) hm)
theorem Bd.mul {k m : Nat} {a b : Int} (h : Bd k a) (h' : Bd m b) : Bd (k + m) (a * b) := by
  unfold Bd at *
  rw [Int.natAbs_mul, Nat.pow_add]
  exact Nat.mul_lt_mul_of_lt_of_lt h h'
theorem Bd.add {k : Nat} {a b : Int} (h : Bd k a) (h' : Bd k b) : Bd (k + 1) (a + b) := by
  unfold Bd at *
  rw [Nat.pow_succ]
  generalize 10 ^ k = z at *
  omega
theorem Bd.sub {k : Nat} {a b : Int} (h : Bd k a) (h' : Bd k b) : Bd (k + 1) (a - b) := by
  unfold Bd at *
  rw [Nat.pow_succ]
  generalize 10 ^ k = z at *
  omega
theorem Bd.neg {k : Nat} {a : Int} (h : Bd k a) : Bd k (-a) := by
  unfold Bd at *
  omega
theorem Bd.lg {k : Nat} {a : Int} (h : Bd k a) : a.natAbs.log2 < 4 * k + 1 := by
  have h1 : a.natAbs < 2 ^ (4 * k + 1) := by
    refine Nat.lt_of_lt_of_le h ?_
    rw [Nat.pow_succ, Nat.pow_mul]
    have : (10 : Nat) ^ k ≤ (2 ^ 4) ^ k := Nat.pow_le_pow_left (by decide) k
    omega
  exact PF.lg (Nat.succ_pos _) h1
theorem mulK {k m : Nat} {a b : Int} (h : Bd k a) (h' : Bd m b) (hk : k + m ≤ 100000) : binD .Mult (.int a) (.int b) = some (.v (.int (a * b))) := by
  have h1 := h.lg
  have h2 := h'.lg
  exact if_pos (by omega)
theorem fdivK {k : Nat} {a b : Int} (h : b ≠ 0) (h' : Bd k b) (hk : k ≤ 2000) : binD .FloorDiv (.int a) (.int b) = some (.v (.int (a.fdiv b))) := by
  have h1 := h'.lg
  have h2 : b.natAbs.log2 < 9000 := by omega
  show (if 0 < b ∧ b.natAbs.log2 < 9000 then some (Sl.v (.int (a / b))) else if b ≠ 0 ∧ b.natAbs.log2 < 9000 then some (Sl.v (.int (a.fdiv b))) else none) = _
  by_cases hp : 0 < b
  · rw [if_pos ⟨hp, h2⟩, Int.fdiv_eq_ediv_of_nonneg a (by omega)]
  · rw [if_neg (fun z => hp z.1), if_pos ⟨h, h2⟩]
theorem Bd.fac {k : Nat} {e x : Int} (he : e ≠ 0) (h : Bd k (e * x)) : Bd k x := by
  unfold Bd at *
  rw [Int.natAbs_mul] at h
  have h1 : 0 < e.natAbs := Int.natAbs_pos.mpr he
  have h2 : 1 * x.natAbs ≤ e.natAbs * x.natAbs := Nat.mul_le_mul_right _ h1
  omega
theorem Bd.gcd {k : Nat} {n d : Int} (h : d ≠ 0) (h' : Bd k d) : Bd k (Int.gcd n d) := by
  unfold Bd at *
  have : Int.gcd n d ≤ d.natAbs := Nat.le_of_dvd (Int.natAbs_pos.mpr h) (Nat.gcd_dvd_right _ _)
  omega
def frD (p : Int × Int) : PyData := .tuple [.int p.1, .int p.2]
end PF

/-! PF19: small data (Sm), equality of rows of ints, loops told by their states. -/
namespace PF
open PySem L2
/-! ### a def's run -/
theorem startE_eq (n : Nat) (as : List Sl) : startE n as = as.map some ++ List.replicate (n - as.length) none := rfl
@[simp] theorem outA_nil (e : En) : outA [] e = some [] := rfl
@[simp] theorem outA_v (d : PyData) (r : List Sl) (x : Option Sl) (e : En) : outA (.v d :: r) (x :: e) = outA r e := rfl
@[simp] theorem outA_b (d l : List PyData) (r : List Sl) (e : En) : outA (.b d :: r) (some (.b l) :: e) = some l := rfl
@[simp] theorem wipF_nx (ws : List Nat) (e : En) : wipF ws (.nx e) = .nx (wipeS e ws) := rfl
@[simp] theorem wipF_ct (ws : List Nat) (e : En) : wipF ws (.ct e) = .ct (wipeS e ws) := rfl
@[simp] theorem wipF_bk (ws : List Nat) (e : En) : wipF ws (.bk e) = .bk (wipeS e ws) := rfl
@[simp] theorem wipF_rt (ws : List Nat) (r : Sl) (e : En) : wipF ws (.rt r e) = .rt r e := rfl
@[simp] theorem wipeS_nil (e : En) : wipeS e [] = e := rfl
@[simp] theorem wipeS_cons (e : En) (i : Nat) (r : List Nat) : wipeS e (i :: r) = (wipeS e r).set i none := rfl
mutual
@[simp] theorem eqP_refl : ∀ d : PyData, d.hasDict = false → eqP d d = true
  | .none, _ => rfl
  | .bool b, _ => by simp [eqP]
  | .int i, _ => by simp [eqP]
  | .str i, _ => by simp [eqP]
  | .list xs, h => by simpa [eqP] using eqPs_refl xs (by simpa [PyData.hasDict] using h)
  | .tuple xs, h => by simpa [eqP] using eqPs_refl xs (by simpa [PyData.hasDict] using h)
  | .dict _, h => by simp [PyData.hasDict] at h
theorem eqPs_refl : ∀ xs : List PyData, PyData.hasDictAll xs = false → eqPs xs xs = true
  | [], _ => rfl
  | x :: r, h => by
    have h' : x.hasDict = false ∧ PyData.hasDictAll r = false := by simpa [PyData.hasDictAll] using h
    simp [eqPs, eqP_refl x h'.1, eqPs_refl r h'.2]
end
/-! ### small data: short ints, no texts -/
mutual
def sml : PyData → Bool
  | .none => true
  | .bool _ => true
  | .int i => decide (i.natAbs < 10 ^ 500)
  | .str s => PyData.canLay0 (.str s) && PyData.showable (.str s) && PyData.leavesShort 501 (.str s) && nost (.str s)
  | .list xs => smlA xs
  | .tuple xs => smlA xs
  | .dict _ => false
def smlA : List PyData → Bool
  | [] => true
  | x :: r => sml x && smlA r
end
theorem smlA_iff : ∀ xs : List PyData, smlA xs = true ↔ ∀ x ∈ xs, sml x = true
  | [] => by simp [smlA]
  | x :: r => by simp [smlA, smlA_iff r]
theorem log_sml {i : Int} (h : i.natAbs < 10 ^ 500) : i.natAbs.log2 < 1700 := lg (by decide) (Nat.lt_trans h (by decide))
theorem text_sml {i : Int} (h : i.natAbs < 10 ^ 500) : (PyData.shown (.int i)).length ≤ 501 := by
  have h1 := int_text_length_le10 (k := 500) (by decide) h
  show (Str.ofString (toString i)).length ≤ 501
  rw [Str.ofString_eq_toList]
  show (Array.size _) ≤ 501
  simp only [List.size_toArray, List.length_map]
  have : (toString i).toList.length = (toString i).length := rfl
  omega
mutual
theorem sml_lay : ∀ d : PyData, sml d = true → d.canLay0 = true ∧ d.showable = true ∧ d.leavesShort 501 = true ∧ nost d = true ∧ d.hasDict = false
  | .none, _ => ⟨rfl, rfl, rfl, rfl, rfl⟩
  | .bool _, _ => ⟨rfl, rfl, rfl, rfl, rfl⟩
  | .int i, h => by
    have h : i.natAbs < 10 ^ 500 := by simpa [sml] using h
    have h1 := log_sml h
    have h2 := text_sml h
    refine ⟨rfl, ?_, ?_, rfl, rfl⟩
    · simp [PyData.showable]
      omega
    · simpa [PyData.leavesShort] using h2
  | .str s, h => by
    unfold sml at h
    rw [Bool.and_eq_true, Bool.and_eq_true, Bool.and_eq_true] at h
    exact ⟨h.1.1.1, h.1.1.2, h.1.2, h.2, rfl⟩
  | .dict _, h => by simp [sml] at h
  | .list xs, h => by
    obtain ⟨h1, h2, h3, h4, h5⟩ := smlA_lay xs (by simpa [sml] using h)
    exact ⟨by simpa [PyData.canLay0] using h1, by simpa [PyData.showable] using h2, by simpa [PyData.leavesShort] using h3, by simpa [nost] using h4, by simpa [PyData.hasDict] using h5⟩
  | .tuple xs, h => by
    obtain ⟨h1, h2, h3, h4, h5⟩ := smlA_lay xs (by simpa [sml] using h)
    exact ⟨by simpa [PyData.canLay0] using h1, by simpa [PyData.showable] using h2, by simpa [PyData.leavesShort] using h3, by simpa [nost] using h4, by simpa [PyData.hasDict] using h5⟩
theorem smlA_lay : ∀ xs : List PyData, smlA xs = true → PyData.canLayAll0 xs = true ∧ PyData.showableAll xs = true ∧ PyData.leavesShortAll 501 xs = true ∧ nostA xs = true ∧ PyData.hasDictAll xs = false
  | [], _ => ⟨rfl, rfl, rfl, rfl, rfl⟩
  | x :: r, h => by
    have h' : sml x = true ∧ smlA r = true := by simpa [smlA] using h
    obtain ⟨a1, a2, a3, a4, a5⟩ := sml_lay x h'.1
    obtain ⟨b1, b2, b3, b4, b5⟩ := smlA_lay r h'.2
    simp [PyData.canLayAll0, PyData.showableAll, PyData.leavesShortAll, nostA, PyData.hasDictAll, a1, a2, a3, a4, a5, b1, b2, b3, b4, b5]
end
/-- small: levels, items, short ints -/
structure Sm (k b : Nat) (d : PyData) : Prop where
  s : sml d = true
  k : d.depth ≤ k
  b : d.bulk ≤ b
theorem Sm.mono {k b k' b' : Nat} {d : PyData} (h : Sm k b d) (hk : k ≤ k') (hb : b ≤ b') : Sm k' b' d := ⟨h.s, Nat.le_trans h.k hk, Nat.le_trans h.b hb⟩
theorem Sm.non (k b : Nat) : Sm k b .none := ⟨rfl, Nat.zero_le _, Nat.zero_le _⟩
theorem Sm.bl (k b : Nat) (x : Bool) : Sm k b (.bool x) := ⟨rfl, Nat.zero_le _, Nat.zero_le _⟩
theorem Sm.intB {i : Int} (h : i.natAbs < 10 ^ 500) (k b : Nat) : Sm k b (.int i) := ⟨by simpa [sml] using h, Nat.zero_le _, Nat.zero_le _⟩
theorem Sm.st {s : Str} {b : Nat} (h : sml (.str s) = true) (hb : s.cps.size ≤ b) (k : Nat) : Sm k b (.str s) := ⟨h, Nat.zero_le _, hb⟩
theorem Sm.int {i : Int} (h : i.natAbs < 10 ^ 60) (k b : Nat) : Sm k b (.int i) := ⟨by simpa [sml] using Nat.lt_trans h (by decide), Nat.zero_le _, Nat.zero_le _⟩
theorem depthAll_le {k : Nat} : ∀ xs : List PyData, (∀ x ∈ xs, x.depth ≤ k) → PyData.depthAll xs ≤ k
  | [], _ => by simp [PyData.depthAll]
  | x :: r, h => by
    have h1 := h x (by simp)
    have h2 := depthAll_le r (fun y hy => h y (List.mem_cons_of_mem _ hy))
    simp only [PyData.depthAll]
    omega
theorem bulkAll_le {b : Nat} : ∀ xs : List PyData, (∀ x ∈ xs, x.bulk ≤ b) → PyData.bulkAll xs ≤ xs.length * (b + 1)
  | [], _ => by simp [PyData.bulkAll]
  | x :: r, h => by
    have h1 := h x (by simp)
    have h2 := bulkAll_le r (fun y hy => h y (List.mem_cons_of_mem _ hy))
    simp only [PyData.bulkAll, List.length_cons]
    rw [Nat.add_mul, Nat.one_mul]
    omega
theorem Sm.tup {k b : Nat} {xs : List PyData} (h : ∀ x ∈ xs, Sm k b x) : Sm (k + 1) (xs.length * (b + 1)) (.tuple xs) := by
  refine ⟨?_, ?_, ?_⟩
  · simpa [sml] using (smlA_iff xs).mpr fun x hx => (h x hx).s
  · have := depthAll_le xs fun x hx => (h x hx).k
    simp only [PyData.depth]
    omega
  · simpa [PyData.bulk] using bulkAll_le xs fun x hx => (h x hx).b
theorem Sm.lst {k b : Nat} {xs : List PyData} (h : ∀ x ∈ xs, Sm k b x) : Sm (k + 1) (xs.length * (b + 1)) (.list xs) := by
  obtain ⟨h1, h2, h3⟩ := Sm.tup h
  exact ⟨by simpa [sml] using h1, by simpa only [PyData.depth] using h2, by simpa only [PyData.bulk] using h3⟩
theorem Sm.cl {k b c : Nat} {x : PyData} {xs : List PyData} (h : Sm k b x) (h' : Sm (k + 1) c (.list xs)) : Sm (k + 1) (b + 1 + c) (.list (x :: xs)) := by
  obtain ⟨h1, h2, h3⟩ := h
  obtain ⟨g1, g2, g3⟩ := h'
  simp only [sml, PyData.depth, PyData.bulk] at g1 g2 g3
  refine ⟨by simp [sml, smlA, h1, g1], ?_, ?_⟩
  · simp only [PyData.depth, PyData.depthAll]
    omega
  · simp only [PyData.bulk, PyData.bulkAll]
    omega
theorem Sm.ct {k b c : Nat} {x : PyData} {xs : List PyData} (h : Sm k b x) (h' : Sm (k + 1) c (.tuple xs)) : Sm (k + 1) (b + 1 + c) (.tuple (x :: xs)) := by
  obtain ⟨h1, h2, h3⟩ := h
  obtain ⟨g1, g2, g3⟩ := h'
  simp only [sml, PyData.depth, PyData.bulk] at g1 g2 g3
  refine ⟨by simp [sml, smlA, h1, g1], ?_, ?_⟩
  · simp only [PyData.depth, PyData.depthAll]
    omega
  · simp only [PyData.bulk, PyData.bulkAll]
    omega
theorem Sm.nl (k : Nat) : Sm (k + 1) 0 (.list []) := ⟨rfl, by simp [PyData.depth, PyData.depthAll], by simp [PyData.bulk, PyData.bulkAll]⟩
theorem Sm.nt (k : Nat) : Sm (k + 1) 0 (.tuple []) := ⟨rfl, by simp [PyData.depth, PyData.depthAll], by simp [PyData.bulk, PyData.bulkAll]⟩
theorem Sm.shaped {k b : Nat} {d : PyData} (h : Sm k b d) (hk : k ≤ 60) : SeqAt.shaped d = true := by
  obtain ⟨h1, h2, h3⟩ := h
  simp [SeqAt.shaped, (sml_lay d h1).1]
  omega
/-- two texts are alike: all that the comparison of both readings wants -/
structure Alk2 (d : PyData) : Prop where
  lay : d.canLay0 = true
  sh : d.showable = true
  dp : d.depth ≤ 60
  ln : d.shown.length ≤ sizeLine
  ok : PyData.strOk d.shown = true
theorem Alk2.run {Γ : Tab} {C : List (Str × PyData)} {FU : Nat} {d : PyData} (h : Alk2 d) : runFn Γ C FU alikeF [.v d, .v d] = some (.v (.bool true), []) := by
  have s1 : SeqAt.shaped d = true := by
    have := h.dp
    simp [SeqAt.shaped, h.lay]
    omega
  have e1 : cmpD .Eq d d = some true := by
    rw [eq_any s1 s1, SeqAt.eqv_refl d h.lay]
  have e2 : fnD .repr [d] = some (.v (.str d.shown)) := if_pos ⟨h.sh, h.ln, (.inl (PyData.hasDict_of_canLay d h.lay)), h.dp⟩
  have s2 : SeqAt.shaped (.str d.shown) = true := by
    simp [SeqAt.shaped, PyData.canLay0, PyData.depth, h.ok]
  have e3 : cmpD .Eq (.str d.shown) (.str d.shown) = some true := by
    rw [eq_any s2 s2]
    simp [PyData.eqv]
  rw [runFn_eq rfl]
  show (runB Γ C FU alikeF.body [some (.v d), some (.v d)]).bind _ = _
  simp [alikeF, e1, e2, e3]
/-- one of them lent by the caller -/
theorem Alk2.runb {Γ : Tab} {C : List (Str × PyData)} {FU : Nat} {l : List PyData} (h : Alk2 (.list l)) : runFn Γ C FU alikeF [.b l, .v (.list l)] = some (.v (.bool true), l) := by
  have s1 : SeqAt.shaped (.list l) = true := by
    have := h.dp
    simp [SeqAt.shaped, h.lay]
    omega
  have e1 : cmpD .Eq (.list l) (.list l) = some true := by
    rw [eq_any s1 s1, SeqAt.eqv_refl _ h.lay]
  have e2 : fnD .repr [.list l] = some (.v (.str (PyData.list l).shown)) := if_pos ⟨h.sh, h.ln, (.inl (PyData.hasDict_of_canLay _ h.lay)), h.dp⟩
  have s2 : SeqAt.shaped (.str (PyData.list l).shown) = true := by
    simp [SeqAt.shaped, PyData.canLay0, PyData.depth, h.ok]
  have e3 : cmpD .Eq (.str (PyData.list l).shown) (.str (PyData.list l).shown) = some true := by
    rw [eq_any s2 s2]
    simp [PyData.eqv]
  rw [runFn_eq rfl]
  show (runB Γ C FU alikeF.body [some (.b l), some (.v (.list l))]).bind _ = _
  simp [alikeF, e1, e2, e3]
theorem Alk2.runb2 {Γ : Tab} {C : List (Str × PyData)} {FU : Nat} {l : List PyData} (h : Alk2 (.list l)) : runFn Γ C FU alikeF [.v (.list l), .b l] = some (.v (.bool true), l) := by
  have s1 : SeqAt.shaped (.list l) = true := by
    have := h.dp
    simp [SeqAt.shaped, h.lay]
    omega
  have e1 : cmpD .Eq (.list l) (.list l) = some true := by
    rw [eq_any s1 s1, SeqAt.eqv_refl _ h.lay]
  have e2 : fnD .repr [.list l] = some (.v (.str (PyData.list l).shown)) := if_pos ⟨h.sh, h.ln, (.inl (PyData.hasDict_of_canLay _ h.lay)), h.dp⟩
  have s2 : SeqAt.shaped (.str (PyData.list l).shown) = true := by
    simp [SeqAt.shaped, PyData.canLay0, PyData.depth, h.ok]
  have e3 : cmpD .Eq (.str (PyData.list l).shown) (.str (PyData.list l).shown) = some true := by
    rw [eq_any s2 s2]
    simp [PyData.eqv]
  rw [runFn_eq rfl]
  show (runB Γ C FU alikeF.body [some (.v (.list l)), some (.b l)]).bind _ = _
  simp [alikeF, e1, e2, e3]
theorem Sm.alk {k b : Nat} {d : PyData} (h : Sm k b d) (hk : k ≤ 60) (hb : b ≤ 30000) : Alk2 d := by
  obtain ⟨h1, h2, h3⟩ := h
  obtain ⟨a1, a2, a3, a4, a5⟩ := sml_lay d h1
  refine ⟨a1, a2, by omega, ?_, ok_show d a4⟩
  have := PyData.shown_le_bulk 501 (by decide) d a3
  have : (16777216 : Nat) = sizeLine := rfl
  omega
/-! ### rows of ints -/
theorem ints_sml (l : List Int) (h : ∀ i ∈ l, i.natAbs < 10 ^ 60) (k b : Nat) : ∀ x ∈ l.map PyData.int, Sm k b x := fun x hx => by
  obtain ⟨i, hi, rfl⟩ := List.mem_map.mp hx
  exact Sm.int (h i hi) k b
theorem lay_ints : ∀ l : List Int, PyData.canLayAll0 (l.map .int) = true ∧ PyData.depthAll (l.map .int) = 0
  | [] => ⟨rfl, rfl⟩
  | i :: r => by
    obtain ⟨h1, h2⟩ := lay_ints r
    simp [PyData.canLayAll0, PyData.canLay0, PyData.depthAll, PyData.depth, h1, h2]
theorem eqv_ints : ∀ a b : List Int, PyData.eqvAll (a.map .int) (b.map .int) = decide (a = b)
  | [], [] => rfl
  | [], _ :: _ => rfl
  | _ :: _, [] => rfl
  | x :: r, y :: s => by
    have ih := eqv_ints r s
    simp only [List.map_cons, PyData.eqvAll, PyData.eqv, ih, List.cons.injEq, Bool.decide_and]
    rw [Bool.beq_eq_decide_eq]
theorem shaped_t (a : List Int) : SeqAt.shaped (.tuple (a.map .int)) = true := by
  obtain ⟨h1, h2⟩ := lay_ints a
  simp [SeqAt.shaped, PyData.canLay0, PyData.depth, h1, h2]
theorem shaped_l (a : List Int) : SeqAt.shaped (.list (a.map .int)) = true := by
  obtain ⟨h1, h2⟩ := lay_ints a
  simp [SeqAt.shaped, PyData.canLay0, PyData.depth, h1, h2]
theorem eq_tints (a b : List Int) : cmpD .Eq (.tuple (a.map .int)) (.tuple (b.map .int)) = some (decide (a = b)) := by
  rw [eq_any (shaped_t a) (shaped_t b)]
  simp only [PyData.eqv, eqv_ints]
theorem ne_tints (a b : List Int) : cmpD .NotEq (.tuple (a.map .int)) (.tuple (b.map .int)) = some (!decide (a = b)) := by
  rw [ne_any (shaped_t a) (shaped_t b)]
  simp only [PyData.eqv, eqv_ints]
theorem eq_lints (a b : List Int) : cmpD .Eq (.list (a.map .int)) (.list (b.map .int)) = some (decide (a = b)) := by
  rw [eq_any (shaped_l a) (shaped_l b)]
  simp only [PyData.eqv, eqv_ints]
theorem ne_lints (a b : List Int) : cmpD .NotEq (.list (a.map .int)) (.list (b.map .int)) = some (!decide (a = b)) := by
  rw [ne_any (shaped_l a) (shaped_l b)]
  simp only [PyData.eqv, eqv_ints]
theorem cut_map {α β : Type} (f : α → β) (xs : List α) (lo hi : Option Int) : cutL (xs.map f) lo hi = (cutL xs lo hi).map f := by
  unfold cutL
  rw [← List.map_drop, ← List.map_take, List.length_map]
theorem intsD_map (l : List Int) : intsD (l.map .int) = some l := by
  induction l with
  | nil => rfl
  | cons i r ih => simp [intsD, ih]
theorem boolsD_map (l : List Bool) : boolsD (l.map .bool) = some l := by
  induction l with
  | nil => rfl
  | cons i r ih => simp [boolsD, ih]
theorem atI_map {α β : Type} (f : α → β) (xs : List α) (i : Int) : atI (xs.map f) i = (atI xs i).map f := by
  unfold atI
  rw [List.length_map]
  cases ixN xs.length i with
  | none => rfl
  | some j => simp
theorem cut_hi {α : Type} (xs : List α) (k : Nat) : cutL xs none (some (k : Int)) = xs.take k := by
  unfold cutL HT.sIx
  simp only [show ¬ ((k : Int) < 0) by omega, if_false, Int.toNat_natCast, Nat.sub_zero, List.drop_zero]
  rcases Nat.le_total k xs.length with h | h
  · rw [Nat.min_eq_left h]
  · rw [Nat.min_eq_right h, List.take_of_length_le (Nat.le_refl _), List.take_of_length_le h]
theorem cut_lo {α : Type} (xs : List α) (k : Nat) : cutL xs (some (k : Int)) none = xs.drop k := by
  unfold cutL HT.sIx
  simp only [show ¬ ((k : Int) < 0) by omega, if_false, Int.toNat_natCast]
  rcases Nat.le_total k xs.length with h | h
  · rw [Nat.min_eq_left h, List.take_of_length_le (by rw [List.length_drop]; exact Nat.le_refl _)]
  · rw [Nat.min_eq_right h, Nat.sub_self, List.take_zero, List.drop_eq_nil_of_le h]
theorem cut_lohi {α : Type} (xs : List α) (a b : Nat) : cutL xs (some (a : Int)) (some (b : Int)) = (xs.drop a).take (b - a) := by
  unfold cutL HT.sIx
  simp only [show ¬ ((a : Int) < 0) by omega, show ¬ ((b : Int) < 0) by omega, if_false, Int.toNat_natCast]
  rcases Nat.le_total a xs.length with h | h
  · rw [Nat.min_eq_left h]
    rcases Nat.le_total b xs.length with h2 | h2
    · rw [Nat.min_eq_left h2]
    · rw [Nat.min_eq_right h2, List.take_of_length_le (by rw [List.length_drop]; exact Nat.le_refl _), List.take_of_length_le (by rw [List.length_drop]; omega)]
  · rw [Nat.min_eq_right h, List.drop_length, List.drop_eq_nil_of_le h, List.take_nil, List.take_nil]
/-! ### loops by their states -/
theorem forD_fold {α σ : Type} {body : PyData → En → Option Fl} (mk : σ → En) (f : α → PyData) (step : σ → α → σ) (P : σ → List α → Prop) : ∀ (xs : List α) (s : σ), P s xs → (∀ s x r, P s (x :: r) → body (f x) (mk s) = some (.nx (mk (step s x))) ∧ P (step s x) r) →
    forD body (xs.map f) (mk s) = some (.nx (mk (xs.foldl step s)))
  | [], s, _, _ => rfl
  | x :: r, s, hp, h => by
    obtain ⟨h1, h2⟩ := h s x r hp
    show (body (f x) (mk s)).bind _ = _
    rw [h1]
    exact forD_fold mk f step P r (step s x) h2 h
theorem whileD_inv {σ : Type} {c : En → Option (Bool × En)} {body : En → Option Fl} (mk : σ → En) (I : σ → Prop) (t : σ → Bool) (step : σ → σ) (μ : σ → Nat) (hc : ∀ s, I s → c (mk s) = some (t s, mk s))
    (hb : ∀ s, I s → t s = true → body (mk s) = some (.nx (mk (step s))) ∧ I (step s) ∧ μ (step s) < μ s) : ∀ (n : Nat) (s : σ), I s → μ s < n → ∃ s', whileD c body n (mk s) = some (.nx (mk s')) ∧ I s' ∧ t s' = false := by
  intro n
  induction n with
  | zero => intro s _ h; omega
  | succ n ih =>
    intro s hs hm
    cases ht : t s with
    | false =>
      refine ⟨s, ?_, hs, ht⟩
      show (c (mk s)).bind _ = _
      rw [hc s hs, ht]
      rfl
    | true =>
      obtain ⟨h1, h2, h3⟩ := hb s hs ht
      obtain ⟨s', e, i, t'⟩ := ih (step s) h2 (by omega)
      refine ⟨s', ?_, i, t'⟩
      show (c (mk s)).bind _ = _
      rw [hc s hs, ht]
      show (body (mk s)).bind _ = _
      rw [h1]
      exact e
theorem compD_mapF {α : Type} {turn : PyData → En → Option (Option PyData × En)} (f : α → PyData) (g : α → PyData) (env : En) (xs : List α) (h : ∀ x ∈ xs, turn (f x) env = some (some (g x), env)) : compD turn (xs.map f) env = some (xs.map g, env) := by
  induction xs with
  | nil => rfl
  | cons x r ih =>
    show (turn (f x) env).bind _ = _
    rw [h x (by simp)]
    show (compD turn (r.map f) env).bind _ = _
    rw [ih fun y hy => h y (List.mem_cons_of_mem _ hy)]
    rfl
theorem compD_filt {α : Type} {turn : PyData → En → Option (Option PyData × En)} (f : α → PyData) (p : α → Bool) (g : α → PyData) (env : En) (xs : List α) (h : ∀ x ∈ xs, turn (f x) env = some (if p x = true then some (g x) else none, env)) : compD turn (xs.map f) env = some ((xs.filter p).map g, env) := by
  induction xs with
  | nil => rfl
  | cons x r ih =>
    show (turn (f x) env).bind _ = _
    rw [h x (by simp)]
    have e := ih fun y hy => h y (List.mem_cons_of_mem _ hy)
    cases hp : p x with
    | true =>
      simp only [if_true, Option.bind_some, e, List.filter_cons, hp, List.map_cons]
    | false =>
      simp only [Bool.false_eq_true, if_false, Option.bind_some, e, List.filter_cons, hp]
theorem rngD_map (lo : Int) (n : Nat) : rngD lo n = (List.range n).map fun (i : Nat) => PyData.int (lo + i) := rfl
@[simp] theorem le11 : (11 : Nat) ≤ sizeLine := by decide
@[simp] theorem le12 : (12 : Nat) ≤ sizeLine := by decide
@[simp] theorem le13 : (13 : Nat) ≤ sizeLine := by decide
@[simp] theorem le14 : (14 : Nat) ≤ sizeLine := by decide
@[simp] theorem le15 : (15 : Nat) ≤ sizeLine := by decide
@[simp] theorem le16 : (16 : Nat) ≤ sizeLine := by decide
@[simp] theorem le17 : (17 : Nat) ≤ sizeLine := by decide
@[simp] theorem le18 : (18 : Nat) ≤ sizeLine := by decide
@[simp] theorem le19 : (19 : Nat) ≤ sizeLine := by decide
@[simp] theorem le20 : (20 : Nat) ≤ sizeLine := by decide
@[simp] theorem le21 : (21 : Nat) ≤ sizeLine := by decide
@[simp] theorem le22 : (22 : Nat) ≤ sizeLine := by decide
@[simp] theorem le23 : (23 : Nat) ≤ sizeLine := by decide
@[simp] theorem le24 : (24 : Nat) ≤ sizeLine := by decide
@[simp] theorem le25 : (25 : Nat) ≤ sizeLine := by decide
@[simp] theorem le26 : (26 : Nat) ≤ sizeLine := by decide
@[simp] theorem le27 : (27 : Nat) ≤ sizeLine := by decide
@[simp] theorem le28 : (28 : Nat) ≤ sizeLine := by decide
@[simp] theorem le29 : (29 : Nat) ≤ sizeLine := by decide
@[simp] theorem le30 : (30 : Nat) ≤ sizeLine := by decide
@[simp] theorem le31 : (31 : Nat) ≤ sizeLine := by decide
@[simp] theorem le32 : (32 : Nat) ≤ sizeLine := by decide
theorem line_is : sizeLine = 16777216 := rfl
/-! ### items by written places -/
@[simp] theorem at_i0 {α : Type} (a : α) (r : List α) : atI (a :: r) 0 = some a := atI_nat (j := 0) rfl
@[simp] theorem at_i1 {α : Type} (a b : α) (r : List α) : atI (a :: b :: r) 1 = some b := atI_nat (j := 1) rfl
@[simp] theorem at_i2 {α : Type} (a b c : α) (r : List α) : atI (a :: b :: c :: r) 2 = some c := atI_nat (j := 2) rfl
@[simp] theorem at_i3 {α : Type} (a b c d : α) (r : List α) : atI (a :: b :: c :: d :: r) 3 = some d := atI_nat (j := 3) rfl
@[simp] theorem at_i4 {α : Type} (a b c d e : α) (r : List α) : atI (a :: b :: c :: d :: e :: r) 4 = some e := atI_nat (j := 4) rfl
@[simp] theorem at_i5 {α : Type} (a b c d e f : α) (r : List α) : atI (a :: b :: c :: d :: e :: f :: r) 5 = some f := atI_nat (j := 5) rfl
@[simp] theorem at_i6 {α : Type} (a b c d e f g : α) (r : List α) : atI (a :: b :: c :: d :: e :: f :: g :: r) 6 = some g := atI_nat (j := 6) rfl
theorem at_n {α : Type} {xs : List α} {i : Int} {j : Nat} {x : α} (hi : i = j) (h : xs[j]? = some x) : atI xs i = some x := by
  subst hi
  exact atI_nat h
theorem rep_t (x : PyData) (k : Nat) (hk : k ≤ 1000000) : binD .Mult (.tuple [x]) (.int k) = some (.v (.tuple (List.replicate k x))) := by
  have e : (List.replicate ((k : Int)).toNat [x]).flatten = List.replicate k x := by
    rw [Int.toNat_natCast]
    clear hk
    induction k with
    | zero => rfl
    | succ k ih => rw [List.replicate_succ, List.flatten_cons, ih, List.replicate_succ]; rfl
  have c : (k : Int).natAbs.log2 < 60 ∧ [x].length * ((k : Int)).toNat ≤ 1000000 := by
    refine ⟨?_, ?_⟩
    · by_cases z : (k : Int).natAbs = 0
      · rw [z]; decide
      · exact (Nat.log2_lt z).mpr (by omega)
    · rw [List.length_singleton, Int.toNat_natCast, Nat.one_mul]
      exact hk
  simp only [binD, if_pos c, e]
theorem rep_l (x : PyData) (k : Nat) (hk : k ≤ sizeLine) : binD .Mult (.list [x]) (.int k) = some (.o (List.replicate k x)) := by
  have e : (List.replicate ((k : Int)).toNat [x]).flatten = List.replicate k x := by
    rw [Int.toNat_natCast]
    clear hk
    induction k with
    | zero => rfl
    | succ k ih => rw [List.replicate_succ, List.flatten_cons, ih, List.replicate_succ]; rfl
  have z := line_is
  have c : (k : Int).natAbs.log2 < 62 ∧ [x].length * ((k : Int)).toNat ≤ sizeLine := by
    refine ⟨Nat.lt_of_lt_of_le (log_of (by omega) (by omega)) (by decide), ?_⟩
    rw [List.length_singleton, Int.toNat_natCast, Nat.one_mul]
    exact hk
  simp only [binD, if_pos c, e]
@[simp high] theorem le0 : (0 : Nat) < sizeLine := by decide
@[simp high] theorem le1 : (1 : Nat) ≤ sizeLine := by decide
@[simp] theorem le2 : (2 : Nat) ≤ sizeLine := by decide
@[simp] theorem le3 : (3 : Nat) ≤ sizeLine := by decide
@[simp] theorem le4 : (4 : Nat) ≤ sizeLine := by decide
@[simp] theorem le5 : (5 : Nat) ≤ sizeLine := by decide
@[simp] theorem le6 : (6 : Nat) ≤ sizeLine := by decide
@[simp] theorem le7 : (7 : Nat) ≤ sizeLine := by decide
@[simp] theorem le8 : (8 : Nat) ≤ sizeLine := by decide
@[simp] theorem le9 : (9 : Nat) ≤ sizeLine := by decide
@[simp] theorem le10 : (10 : Nat) ≤ sizeLine := by decide
theorem whileD_ex {σ : Type} {c : En → Option (Bool × En)} {body : En → Option Fl} (mk : σ → En) (I : σ → Prop) (t : σ → Bool) (μ : σ → Nat) (hc : ∀ s, I s → c (mk s) = some (t s, mk s))
    (hb : ∀ s, I s → t s = true → ∃ s', body (mk s) = some (.nx (mk s')) ∧ I s' ∧ μ s' < μ s) : ∀ (n : Nat) (s : σ), I s → μ s < n → ∃ s', whileD c body n (mk s) = some (.nx (mk s')) ∧ I s' ∧ t s' = false := by
  intro n
  induction n with
  | zero => intro s _ h; omega
  | succ n ih =>
    intro s hs hm
    cases ht : t s with
    | false =>
      refine ⟨s, ?_, hs, ht⟩
      show (c (mk s)).bind _ = _
      rw [hc s hs, ht]
      rfl
    | true =>
      obtain ⟨s1, h1, h2, h3⟩ := hb s hs ht
      obtain ⟨s', e, i, t'⟩ := ih s1 h2 (by omega)
      refine ⟨s', ?_, i, t'⟩
      show (c (mk s)).bind _ = _
      rw [hc s hs, ht]
      show (body (mk s)).bind _ = _
      rw [h1]
      exact e
/-! ### fractions -/
@[simp] theorem fr_i0 (p : Int × Int) : ixD (frD p) (.int 0) = some (.int p.1) := rfl
@[simp] theorem fr_i1 (p : Int × Int) : ixD (frD p) (.int 1) = some (.int p.2) := rfl
/-- the size of a fraction's two numbers -/
structure Bf (k : Nat) (p : Int × Int) : Prop where
  a : Bd k p.1
  b : Bd k p.2
theorem Bf.mono {k m : Nat} {p : Int × Int} (h : Bf k p) (hm : k ≤ m) : Bf m p := ⟨h.a.mono hm, h.b.mono hm⟩
theorem bf_red {k : Nat} {a b : Int} (hb : b ≠ 0) (h : Bd k a) (h' : Bd k b) : Bf k (redI a b) := by
  obtain ⟨e, x, y, he, h1, h2, h3, _⟩ := redI_is (n := a) hb
  rw [h3]
  rw [h1] at h
  rw [h2] at h'
  exact ⟨h.fac he, h'.fac he⟩
theorem red_red {a b : Int} (hb : b ≠ 0) : Red (redI a b) := by
  obtain ⟨e, x, y, he, h1, h2, h3, h4, _⟩ := redI_is (n := a) hb
  rw [h3]
  exact h4
theorem red_cross {a b : Int} (hb : b ≠ 0) : (redI a b).1 * b = a * (redI a b).2 := by
  obtain ⟨e, x, y, he, h1, h2, h3, _⟩ := redI_is (n := a) hb
  rw [h3, h1, h2]
  show x * (e * y) = e * x * y
  rw [← Int.mul_assoc, Int.mul_comm x e]
theorem ne_mul {a b : Int} (ha : 0 < a) (hb : 0 < b) : a * b ≠ 0 := by
  have := Int.mul_pos ha hb
  omega
def addI (p q : Int × Int) : Int × Int := redI (p.1 * q.2 + q.1 * p.2) (p.2 * q.2)
def subI (p q : Int × Int) : Int × Int := redI (p.1 * q.2 - q.1 * p.2) (p.2 * q.2)
def mulF (p q : Int × Int) : Int × Int := redI (p.1 * q.1) (p.2 * q.2)
def divF (p q : Int × Int) : Int × Int := redI (p.1 * q.2) (p.2 * q.1)
def cmpF (p q : Int × Int) : Int := if q.1 * p.2 < p.1 * q.2 then 1 else if p.1 * q.2 < q.1 * p.2 then -1 else 0
/-- a fraction: reduced, of so many digits -/
structure Fr (k : Nat) (p : Int × Int) : Prop where
  r : Red p
  b : Bf k p
theorem Fr.mono {k m : Nat} {p : Int × Int} (h : Fr k p) (hm : k ≤ m) : Fr m p := ⟨h.r, h.b.mono hm⟩
theorem Fr.pos {k : Nat} {p : Int × Int} (h : Fr k p) : 0 < p.2 := h.r.pos
theorem Fr.red {k : Nat} {a b : Int} (hb : b ≠ 0) (h : Bd k a) (h' : Bd k b) : Fr k (redI a b) := ⟨red_red hb, bf_red hb h h'⟩
theorem Fr.add {k m : Nat} {p q : Int × Int} (h : Fr k p) (h' : Fr m q) : Fr (k + m + 1) (addI p q) :=
  .red (ne_mul h.pos h'.pos) (Bd.add (h.b.a.mul h'.b.b) (by rw [Nat.add_comm]; exact h'.b.a.mul h.b.b)) ((h.b.b.mul h'.b.b).mono (by omega))
theorem Fr.sub {k m : Nat} {p q : Int × Int} (h : Fr k p) (h' : Fr m q) : Fr (k + m + 1) (subI p q) :=
  .red (ne_mul h.pos h'.pos) (Bd.sub (h.b.a.mul h'.b.b) (by rw [Nat.add_comm]; exact h'.b.a.mul h.b.b)) ((h.b.b.mul h'.b.b).mono (by omega))
theorem Fr.mul {k m : Nat} {p q : Int × Int} (h : Fr k p) (h' : Fr m q) : Fr (k + m) (mulF p q) :=
  .red (ne_mul h.pos h'.pos) (h.b.a.mul h'.b.a) (h.b.b.mul h'.b.b)
theorem Fr.sm {k : Nat} {p : Int × Int} (h : Fr k p) (hk : k ≤ 500) : Sm 1 2 (frD p) :=
  Sm.tup (k := 0) (b := 0) (xs := [.int p.1, .int p.2]) (fun x hx => by
    simp only [List.mem_cons, List.not_mem_nil, or_false] at hx
    rcases hx with rfl | rfl
    · exact Sm.intB (h.b.a.mono hk) 0 0
    · exact Sm.intB (h.b.b.mono hk) 0 0)
theorem shaped_fr (p : Int × Int) : SeqAt.shaped (frD p) = true := by
  simp [frD, SeqAt.shaped, PyData.canLay0, PyData.canLayAll0, PyData.depth, PyData.depthAll]
theorem eq_fr (p q : Int × Int) : cmpD .Eq (frD p) (frD q) = some (decide (p = q)) := by
  obtain ⟨a, b⟩ := p
  obtain ⟨c, d⟩ := q
  rw [eq_any (shaped_fr _) (shaped_fr _)]
  simp [frD, PyData.eqv, PyData.eqvAll, Bool.beq_eq_decide_eq]
theorem cmpF_le {p q : Int × Int} : cmpF p q ≤ 0 ↔ p.1 * q.2 ≤ q.1 * p.2 := by
  unfold cmpF
  split
  · omega
  · split <;> omega
theorem cmpF_lt {p q : Int × Int} : cmpF p q < 0 ↔ p.1 * q.2 < q.1 * p.2 := by
  unfold cmpF
  split
  · omega
  · split <;> omega
theorem cmpF_gt {p q : Int × Int} : 0 < cmpF p q ↔ q.1 * p.2 < p.1 * q.2 := by
  unfold cmpF
  split
  · omega
  · split <;> omega
/-- less or alike, by integers -/
def leF (p q : Int × Int) : Prop := p.1 * q.2 ≤ q.1 * p.2
theorem leF_trans {p q r : Int × Int} (hp : 0 < p.2) (hq : 0 < q.2) (hr : 0 < r.2) (h : leF p q) (h' : leF q r) : leF p r := by
  unfold leF at *
  have h1 : p.1 * q.2 * r.2 ≤ q.1 * p.2 * r.2 := Int.mul_le_mul_of_nonneg_right h (by omega)
  have h2 : q.1 * r.2 * p.2 ≤ r.1 * q.2 * p.2 := Int.mul_le_mul_of_nonneg_right h' (by omega)
  have h3 : (p.1 * r.2) * q.2 ≤ (r.1 * p.2) * q.2 := by
    have e1 : (p.1 * r.2) * q.2 = p.1 * q.2 * r.2 := by rw [Int.mul_assoc, Int.mul_comm r.2, ← Int.mul_assoc]
    have e2 : (r.1 * p.2) * q.2 = r.1 * q.2 * p.2 := by rw [Int.mul_assoc, Int.mul_comm p.2, ← Int.mul_assoc]
    have e3 : q.1 * p.2 * r.2 = q.1 * r.2 * p.2 := by rw [Int.mul_assoc, Int.mul_comm p.2, ← Int.mul_assoc]
    omega
  exact Int.le_of_mul_le_mul_right h3 hq
theorem leF_total (p q : Int × Int) : leF p q ∨ leF q p := by
  unfold leF
  omega
theorem leF_anti {p q : Int × Int} (hp : Red p) (hq : Red q) (h : leF p q) (h' : leF q p) : p = q := red_uniq hp hq (by unfold leF at *; omega)
theorem repr_ok {d : PyData} (h : Alk2 d) : fnD .repr [d] = some (.v (.str d.shown)) := if_pos ⟨h.sh, h.ln, (.inl (PyData.hasDict_of_canLay d h.lay)), h.dp⟩
theorem shown_ne {d : PyData} (h : Alk2 d) : cmpD .NotEq (.str d.shown) (.str d.shown) = some false := by
  have s2 : SeqAt.shaped (.str d.shown) = true := by
    simp [SeqAt.shaped, PyData.canLay0, PyData.depth, h.ok]
  rw [ne_any s2 s2]
  simp [PyData.eqv]
theorem compD_keep {turn : PyData → En → Option (Option PyData × En)} (I : Nat → En → Prop) (P : PyData → Prop) : ∀ (ds : List PyData) (k : Nat) (env : En), I k env →
    (∀ i (hi : i < ds.length) e, I (k + i) e → ∃ y e', turn ds[i] e = some (some y, e') ∧ P y ∧ I (k + i + 1) e') → ∃ ys e, compD turn ds env = some (ys, e) ∧ (∀ y ∈ ys, P y) ∧ ys.length = ds.length ∧ I (k + ds.length) e
  | [], k, env, h, _ => ⟨[], env, rfl, by simp, rfl, h⟩
  | d :: r, k, env, h, H => by
    obtain ⟨y, e1, h1, hy, h2⟩ := H 0 (by simp) env h
    obtain ⟨ys, e2, h3, h4, h5, h6⟩ := compD_keep I P r (k + 1) e1 h2 (fun i hi e he => by
      have := H (i + 1) (by simp; omega) e (by rw [show k + (i + 1) = k + 1 + i by omega]; exact he)
      rw [show k + (i + 1) + 1 = k + 1 + i + 1 by omega] at this
      exact this)
    refine ⟨y :: ys, e2, ?_, ?_, by simp [h5], by rw [List.length_cons, show k + (r.length + 1) = k + 1 + r.length by omega]; exact h6⟩
    · show (turn d env).bind _ = _
      rw [show turn d env = some (some y, e1) from h1]
      show (compD turn r e1).bind _ = _
      rw [h3]
      rfl
    · intro z hz
      rcases List.mem_cons.mp hz with rfl | hz
      · exact hy
      · exact h4 z hz
theorem zipD_map {α β : Type} (f : α → PyData) (g : β → PyData) : ∀ (xs : List α) (ys : List β), zipD (xs.map f) (ys.map g) = (xs.zip ys).map fun p => .tuple [f p.1, g p.2]
  | [], ys => by simp [zipD]
  | x :: r, [] => by simp [zipD]
  | x :: r, y :: s => by simp [zipD, zipD_map f g r s]
/-! ### ascending by integers -/
def insF (p : Int × Int) : List (Int × Int) → List (Int × Int)
  | [] => [p]
  | x :: r => if x.1 * p.2 ≤ p.1 * x.2 then x :: insF p r else p :: x :: r
def ordF (ps : List (Int × Int)) : List (Int × Int) := ps.foldl (fun l p => insF p l) []
theorem insF_mem (p : Int × Int) : ∀ (l : List (Int × Int)) (x : Int × Int), x ∈ insF p l ↔ x = p ∨ x ∈ l
  | [], x => by simp [insF]
  | y :: r, x => by
    unfold insF
    split
    · simp only [List.mem_cons, insF_mem p r x]
      constructor
      · rintro (h | h | h) <;> simp [h]
      · rintro (h | h | h) <;> simp [h]
    · simp only [List.mem_cons]
theorem insF_len (p : Int × Int) : ∀ l : List (Int × Int), (insF p l).length = l.length + 1
  | [] => rfl
  | y :: r => by
    unfold insF
    split
    · simp [insF_len p r]
    · simp
theorem insF_sorted {p : Int × Int} (hp : 0 < p.2) : ∀ l : List (Int × Int), (∀ x ∈ l, 0 < x.2) → l.Pairwise leF → (insF p l).Pairwise leF
  | [], _, _ => by simp [insF]
  | y :: r, hl, h => by
    rw [List.pairwise_cons] at h
    have hy := hl y (by simp)
    unfold insF
    split
    · rename_i hc
      refine List.pairwise_cons.mpr ⟨fun z hz => ?_, insF_sorted hp r (fun x hx => hl x (List.mem_cons_of_mem _ hx)) h.2⟩
      rcases (insF_mem p r z).mp hz with rfl | hz
      · exact hc
      · exact h.1 z hz
    · rename_i hc
      have hpy : leF p y := (leF_total p y).resolve_right fun z => hc z
      refine List.pairwise_cons.mpr ⟨fun z hz => ?_, List.pairwise_cons.mpr h⟩
      rcases List.mem_cons.mp hz with rfl | hz
      · exact hpy
      · exact leF_trans hp hy (hl z (List.mem_cons_of_mem _ hz)) hpy (h.1 z hz)
/-- the place told by counting -/
theorem insF_at {p : Int × Int} (hp : 0 < p.2) : ∀ l : List (Int × Int), (∀ x ∈ l, 0 < x.2) → l.Pairwise leF →
    l.take (l.filter fun x => decide (x.1 * p.2 - p.1 * x.2 ≤ 0)).length ++ p :: l.drop (l.filter fun x => decide (x.1 * p.2 - p.1 * x.2 ≤ 0)).length = insF p l
  | [], _, _ => rfl
  | y :: r, hl, h => by
    rw [List.pairwise_cons] at h
    have hy := hl y (by simp)
    by_cases hc : y.1 * p.2 ≤ p.1 * y.2
    · have hc2 : y.1 * p.2 - p.1 * y.2 ≤ 0 := by omega
      have ih := insF_at hp r (fun x hx => hl x (List.mem_cons_of_mem _ hx)) h.2
      simp only [List.filter_cons, hc2, decide_true, if_true, List.length_cons, List.take_succ_cons, List.drop_succ_cons, List.cons_append, insF, hc, ih]
    · have hc2 : ¬ y.1 * p.2 - p.1 * y.2 ≤ 0 := by omega
      have hn : (r.filter fun x => decide (x.1 * p.2 - p.1 * x.2 ≤ 0)) = [] := by
        rw [List.filter_eq_nil_iff]
        intro z hz hd
        have hd : z.1 * p.2 - p.1 * z.2 ≤ 0 := of_decide_eq_true hd
        have hyz := h.1 z hz
        have hzp : leF z p := by unfold leF; omega
        have := leF_trans hy (hl z (List.mem_cons_of_mem _ hz)) hp hyz hzp
        exact hc this
      simp only [List.filter_cons, hc2, decide_false, Bool.false_eq_true, if_false, hn, List.length_nil, List.take_zero, List.drop_zero, List.nil_append, insF, hc]
theorem ordF_all {ps : List (Int × Int)} (h : ∀ x ∈ ps, 0 < x.2) : (∀ x, x ∈ ordF ps ↔ x ∈ ps) ∧ (ordF ps).length = ps.length ∧ (ordF ps).Pairwise leF := by
  have key : ∀ (ps l : List (Int × Int)), (∀ x ∈ ps, 0 < x.2) → (∀ x ∈ l, 0 < x.2) → l.Pairwise leF → (∀ x, x ∈ ps.foldl (fun l p => insF p l) l ↔ x ∈ l ∨ x ∈ ps) ∧ (ps.foldl (fun l p => insF p l) l).length = l.length + ps.length ∧ (ps.foldl (fun l p => insF p l) l).Pairwise leF := by
    intro ps
    induction ps with
    | nil => intro l _ _ hl; exact ⟨by simp, by simp, hl⟩
    | cons p r ih =>
      intro l h1 h2 h3
      have hp := h1 p (by simp)
      obtain ⟨a, b, c⟩ := ih (insF p l) (fun x hx => h1 x (List.mem_cons_of_mem _ hx)) (fun x hx => by
        rcases (insF_mem p l x).mp hx with rfl | hx
        · exact hp
        · exact h2 x hx) (insF_sorted hp l h2 h3)
      refine ⟨fun x => ?_, by rw [List.foldl_cons, b, insF_len, List.length_cons]; omega, c⟩
      rw [List.foldl_cons, a x, insF_mem, List.mem_cons]
      constructor
      · rintro ((h | h) | h) <;> simp [h]
      · rintro (h | h | h) <;> simp [h]
  obtain ⟨a, b, c⟩ := key ps [] h (by simp) .nil
  exact ⟨fun x => by rw [ordF, a x]; simp, by rw [ordF, b]; simp, c⟩
end PF

/-! PF20: fractions with one denominator: integers (qF D x is x by D). -/
namespace PF
open PySem L2
def qF (D x : Int) : Int × Int := redI x D
section
variable {D E x y : Int}
theorem qF_red (hD : 0 < D) (x : Int) : Red (qF D x) := red_red (by omega)
theorem qF_pos (hD : 0 < D) (x : Int) : 0 < (qF D x).2 := (qF_red hD x).pos
theorem qF_cross (hD : 0 < D) (x : Int) : (qF D x).1 * D = x * (qF D x).2 := red_cross (by omega)
theorem qF_eq (hD : 0 < D) {p : Int × Int} (hp : Red p) (h : p.1 * D = x * p.2) : p = qF D x := by
  refine red_uniq hp (qF_red hD x) ?_
  have h2 := qF_cross hD x
  apply Int.eq_of_mul_eq_mul_right (show D ≠ 0 by omega)
  calc p.1 * (qF D x).2 * D = (p.1 * D) * (qF D x).2 := by ac_rfl
    _ = x * p.2 * (qF D x).2 := by rw [h]
    _ = (x * (qF D x).2) * p.2 := by ac_rfl
    _ = (qF D x).1 * D * p.2 := by rw [h2]
    _ = (qF D x).1 * p.2 * D := by ac_rfl
theorem redI_q (hE : 0 < E) (hD : 0 < D) {N : Int} (h : N * D = x * E) : redI N E = qF D x := by
  have hn : E ≠ 0 := by omega
  refine qF_eq hD (red_red hn) ?_
  have c := red_cross (a := N) hn
  apply Int.eq_of_mul_eq_mul_right hn
  calc (redI N E).1 * D * E = ((redI N E).1 * E) * D := by ac_rfl
    _ = N * (redI N E).2 * D := by rw [c]
    _ = (N * D) * (redI N E).2 := by ac_rfl
    _ = x * E * (redI N E).2 := by rw [h]
    _ = x * (redI N E).2 * E := by ac_rfl
theorem qF_add (hD : 0 < D) (x y : Int) : addI (qF D x) (qF D y) = qF D (x + y) := by
  have hx := qF_cross hD x
  have hy := qF_cross hD y
  refine redI_q (Int.mul_pos (qF_pos hD x) (qF_pos hD y)) hD ?_
  calc ((qF D x).1 * (qF D y).2 + (qF D y).1 * (qF D x).2) * D = ((qF D x).1 * D) * (qF D y).2 + ((qF D y).1 * D) * (qF D x).2 := by
        rw [Int.add_mul]
        congr 1 <;> ac_rfl
    _ = x * (qF D x).2 * (qF D y).2 + y * (qF D y).2 * (qF D x).2 := by rw [hx, hy]
    _ = (x + y) * ((qF D x).2 * (qF D y).2) := by
        rw [Int.add_mul]
        congr 1 <;> ac_rfl
theorem qF_sub (hD : 0 < D) (x y : Int) : subI (qF D x) (qF D y) = qF D (x - y) := by
  have hx := qF_cross hD x
  have hy := qF_cross hD y
  refine redI_q (Int.mul_pos (qF_pos hD x) (qF_pos hD y)) hD ?_
  calc ((qF D x).1 * (qF D y).2 - (qF D y).1 * (qF D x).2) * D = ((qF D x).1 * D) * (qF D y).2 - ((qF D y).1 * D) * (qF D x).2 := by
        rw [Int.sub_mul]
        congr 1 <;> ac_rfl
    _ = x * (qF D x).2 * (qF D y).2 - y * (qF D y).2 * (qF D x).2 := by rw [hx, hy]
    _ = (x - y) * ((qF D x).2 * (qF D y).2) := by
        rw [Int.sub_mul]
        congr 1 <;> ac_rfl
theorem qF_mul (hD : 0 < D) (hE : 0 < E) (x y : Int) : mulF (qF D x) (qF E y) = qF (D * E) (x * y) := by
  have hx := qF_cross hD x
  have hy := qF_cross hE y
  refine redI_q (Int.mul_pos (qF_pos hD x) (qF_pos hE y)) (Int.mul_pos hD hE) ?_
  calc ((qF D x).1 * (qF E y).1) * (D * E) = ((qF D x).1 * D) * ((qF E y).1 * E) := by ac_rfl
    _ = x * (qF D x).2 * (y * (qF E y).2) := by rw [hx, hy]
    _ = (x * y) * ((qF D x).2 * (qF E y).2) := by ac_rfl
theorem qF_scale (hD : 0 < D) {c : Int} (hc : 0 < c) (x : Int) : qF (D * c) (x * c) = qF D x := by
  refine redI_q (Int.mul_pos hD hc) hD ?_
  ac_rfl
theorem qF_neg (hD : 0 < D) (x : Int) : (-(qF D x).1, (qF D x).2) = qF D (-x) := by
  have h := qF_red hD x
  have hx := qF_cross hD x
  refine qF_eq hD ⟨h.pos, by simpa using h.cop⟩ ?_
  show -(qF D x).1 * D = -x * (qF D x).2
  rw [Int.neg_mul, hx, Int.neg_mul]
theorem qF_diff (hD : 0 < D) (x y : Int) : ((qF D x).1 * (qF D y).2 - (qF D y).1 * (qF D x).2) * D = (x - y) * ((qF D x).2 * (qF D y).2) := by
  have hx := qF_cross hD x
  have hy := qF_cross hD y
  calc ((qF D x).1 * (qF D y).2 - (qF D y).1 * (qF D x).2) * D = ((qF D x).1 * D) * (qF D y).2 - ((qF D y).1 * D) * (qF D x).2 := by
        rw [Int.sub_mul]
        congr 1 <;> ac_rfl
    _ = x * (qF D x).2 * (qF D y).2 - y * (qF D y).2 * (qF D x).2 := by rw [hx, hy]
    _ = (x - y) * ((qF D x).2 * (qF D y).2) := by
        rw [Int.sub_mul]
        congr 1 <;> ac_rfl
theorem qF_lt (hD : 0 < D) (x y : Int) : (qF D x).1 * (qF D y).2 - (qF D y).1 * (qF D x).2 < 0 ↔ x < y := by
  have h := qF_diff hD x y
  have hp := Int.mul_pos (qF_pos hD x) (qF_pos hD y)
  constructor
  · intro h1
    have h2 := Int.mul_neg_of_neg_of_pos h1 hD
    rw [h] at h2
    have := Int.neg_of_mul_neg_left h2 (by omega)
    omega
  · intro h1
    have h2 := Int.mul_neg_of_neg_of_pos (show x - y < 0 by omega) hp
    rw [← h] at h2
    exact Int.neg_of_mul_neg_left h2 (by omega)
theorem qF_le (hD : 0 < D) (x y : Int) : (qF D x).1 * (qF D y).2 - (qF D y).1 * (qF D x).2 ≤ 0 ↔ x ≤ y := by
  have := qF_lt hD y x
  omega
theorem qF_ge (hD : 0 < D) (x y : Int) : 0 ≤ (qF D x).1 * (qF D y).2 - (qF D y).1 * (qF D x).2 ↔ y ≤ x := by
  have := qF_lt hD x y
  omega
theorem qF_inj (hD : 0 < D) (x y : Int) : qF D x = qF D y ↔ x = y := by
  constructor
  · intro h
    have h1 := qF_le hD x y
    have h2 := qF_le hD y x
    rw [h] at h1 h2
    omega
  · rintro rfl
    rfl
theorem qF_cmp (hD : 0 < D) (x y : Int) : cmpF (qF D x) (qF D y) = if y < x then 1 else if x < y then -1 else 0 := by
  have h1 := qF_lt hD x y
  have h2 := qF_lt hD y x
  unfold cmpF
  by_cases a : y < x
  · rw [if_pos a, if_pos (by omega)]
  · rw [if_neg a, if_neg (by omega)]
    by_cases b : x < y
    · rw [if_pos b, if_pos (by omega)]
    · rw [if_neg b, if_neg (by omega)]
theorem qF_fr {k : Nat} (hD : 0 < D) (hx : Bd k x) (hE : Bd k D) : Fr k (qF D x) := .red (by omega) hx hE
theorem qF_fin {k : Nat} {p : Int × Int} (h : Fr k p) : p = qF p.2 p.1 := (red_self h.r).symm
theorem qF_one (hD : 0 < D) (c : Int) : qF D (c * D) = (c, 1) := by
  have h1 : Red (c, 1) := ⟨show (0 : Int) < 1 by decide, by simp⟩
  exact (qF_eq hD h1 (by simp)).symm
end
end PF

/-! PF21: running sums. -/
namespace PF
open PySem L2
def mom : Int → List Int → List Int
  | m, [] => [m]
  | m, x :: r => m :: mom (m + x) r
def csum : Nat → List Nat → List Nat
  | m, [] => [m]
  | m, x :: r => m :: csum (m + x) r
theorem mom_len : ∀ (xs : List Int) (m : Int), (mom m xs).length = xs.length + 1
  | [], _ => rfl
  | x :: r, m => by simp [mom, mom_len r]
theorem mom_get : ∀ (xs : List Int) (m : Int) (i : Nat), i ≤ xs.length → (mom m xs)[i]? = some (m + (xs.take i).sum)
  | [], m, i, h => by
    obtain rfl : i = 0 := by simpa using h
    simp [mom]
  | x :: r, m, 0, _ => by simp [mom]
  | x :: r, m, i + 1, h => by
    have := mom_get r (m + x) i (by simpa using h)
    simp only [mom, List.getElem?_cons_succ, this, List.take_succ_cons, List.sum_cons]
    congr 1
    omega
theorem mom_getD (xs : List Int) (m : Int) (i : Nat) (h : i ≤ xs.length) : (mom m xs).getD i 0 = m + (xs.take i).sum := by
  rw [List.getD_eq_getElem?_getD, mom_get xs m i h]
  rfl
theorem csum_len : ∀ (xs : List Nat) (m : Nat), (csum m xs).length = xs.length + 1
  | [], _ => rfl
  | x :: r, m => by simp [csum, csum_len r]
theorem csum_le : ∀ (xs : List Nat) (m : Nat), ∀ c ∈ csum m xs, m ≤ c ∧ c ≤ m + xs.sum
  | [], m, c, h => by
    simp [csum] at h
    simp [h]
  | x :: r, m, c, h => by
    simp only [csum, List.mem_cons] at h
    simp only [List.sum_cons]
    rcases h with rfl | h
    · omega
    · have := csum_le r (m + x) c h
      omega
theorem csum_get : ∀ (xs : List Nat) (m : Nat) (i : Nat), i ≤ xs.length → (csum m xs)[i]? = some (m + (xs.take i).sum)
  | [], m, i, h => by
    obtain rfl : i = 0 := by simpa using h
    simp [csum]
  | x :: r, m, 0, _ => by simp [csum]
  | x :: r, m, i + 1, h => by
    have := csum_get r (m + x) i (by simpa using h)
    simp only [csum, List.getElem?_cons_succ, this, List.take_succ_cons, List.sum_cons]
    congr 1
    omega
theorem isum_app (a b : List Int) : (a ++ b).sum = a.sum + b.sum := by
  induction a with
  | nil => simp
  | cons x r ih => simp [ih]; omega
theorem isum_rev (a : List Int) : a.reverse.sum = a.sum := by
  induction a with
  | nil => rfl
  | cons x r ih => simp [isum_app, ih]; omega
theorem isum_td (a : List Int) (i : Nat) : (a.take i).sum + (a.drop i).sum = a.sum := by
  rw [← isum_app, List.take_append_drop]
theorem nsum_app (a b : List Nat) : (a ++ b).sum = a.sum + b.sum := by
  induction a with
  | nil => simp
  | cons x r ih => simp [ih]; omega
theorem nsum_rev (a : List Nat) : a.reverse.sum = a.sum := by
  induction a with
  | nil => rfl
  | cons x r ih => simp [nsum_app, ih]; omega
theorem nsum_td (a : List Nat) (i : Nat) : (a.take i).sum + (a.drop i).sum = a.sum := by
  rw [← nsum_app, List.take_append_drop]
theorem take_rev_sum (a : List Int) (i : Nat) : (a.reverse.take i).sum = a.sum - (a.take (a.length - i)).sum := by
  have h := isum_td a (a.length - i)
  rw [List.take_reverse, isum_rev]
  omega
theorem take_rev_nsum (a : List Nat) (i : Nat) : (a.reverse.take i).sum = a.sum - (a.take (a.length - i)).sum := by
  have h := nsum_td a (a.length - i)
  rw [List.take_reverse, nsum_rev]
  omega
/-- the moments of a reel that runs backward -/
theorem mom_back (t : Int) (xs : List Int) : mom (-(t + xs.sum)) xs.reverse = (mom t xs).reverse.map fun m => -m := by
  apply List.ext_getElem?
  intro i
  by_cases h : i ≤ xs.length
  · rw [mom_get _ _ _ (by rw [List.length_reverse]; exact h), List.getElem?_map, List.getElem?_reverse (by rw [mom_len]; omega), mom_len, mom_get _ _ _ (by omega), take_rev_sum]
    simp only [Option.map_some]
    congr 1
    rw [show xs.length + 1 - 1 - i = xs.length - i by omega]
    omega
  · rw [List.getElem?_eq_none (by rw [mom_len, List.length_reverse]; omega), List.getElem?_eq_none (by rw [List.length_map, List.length_reverse, mom_len]; omega)]
/-- the moments of marks -/
def marksL (t : Int) (xs : List Int) (rs : List Nat) : List Int := (csum 0 rs).map fun c => (mom t xs).getD c 0
theorem marks_back (t : Int) (xs : List Int) (rs : List Nat) (h : rs.sum = xs.length) : marksL (-(t + xs.sum)) xs.reverse rs.reverse = (marksL t xs rs).reverse.map fun m => -m := by
  apply List.ext_getElem?
  intro i
  by_cases hi : i ≤ rs.length
  · have e1 := nsum_td rs (rs.length - i)
    have h1 : (rs.take (rs.length - i)).sum ≤ xs.length := by omega
    have h2 : (rs.reverse.take i).sum ≤ xs.length := by
      rw [take_rev_nsum]
      omega
    unfold marksL
    rw [List.getElem?_map, csum_get _ _ _ (by rw [List.length_reverse]; exact hi), List.getElem?_map, List.getElem?_reverse (by rw [List.length_map, csum_len]; omega), List.length_map, csum_len, List.getElem?_map, csum_get _ _ _ (by omega)]
    simp only [Option.map_some]
    congr 1
    rw [show rs.length + 1 - 1 - i = rs.length - i by omega, Nat.zero_add, Nat.zero_add, mom_getD _ _ _ (by rw [List.length_reverse]; exact h2), mom_getD _ _ _ h1, take_rev_sum, take_rev_nsum]
    rw [show xs.length - (rs.sum - (rs.take (rs.length - i)).sum) = (rs.take (rs.length - i)).sum by omega]
    omega
  · unfold marksL
    rw [List.getElem?_eq_none (by rw [List.length_map, csum_len, List.length_reverse]; omega), List.getElem?_eq_none (by rw [List.length_map, List.length_reverse, List.length_map, csum_len]; omega)]
theorem mom_bd {xs : List Int} {t : Int} {C : Nat} (h : ∀ x ∈ xs, x.natAbs ≤ C) : ∀ y ∈ mom t xs, y.natAbs ≤ t.natAbs + C * xs.length := by
  induction xs generalizing t with
  | nil => intro y hy; simp [mom] at hy; simp [hy]
  | cons x r ih =>
    intro y hy
    simp only [mom, List.mem_cons] at hy
    have hx := h x (by simp)
    simp only [List.length_cons]
    rw [Nat.mul_add]
    rcases hy with rfl | hy
    · omega
    · have := ih (t := t + x) (fun z hz => h z (List.mem_cons_of_mem _ hz)) y hy
      omega
end PF

set_option maxHeartbeats 4000000
/-! PF22: repr of dicts of small data. -/
namespace PF
open PySem L2
/-- a dict whose keys and values are small, no list in it -/
structure SmK (k b : Nat) (kvs : List (PyData × PyData)) : Prop where
  s : ∀ p ∈ kvs, sml p.1 = true ∧ sml p.2 = true ∧ nol p.2 = true
  d : ∀ p ∈ kvs, p.1.depth ≤ k ∧ p.2.depth ≤ k
  b : ∀ p ∈ kvs, p.1.bulk ≤ b ∧ p.2.bulk ≤ b
  q : fnQ kvs = false
theorem kv_sml : ∀ kvs : List (PyData × PyData), (∀ p ∈ kvs, sml p.1 = true ∧ sml p.2 = true ∧ nol p.2 = true) →
    PyData.showableKv kvs = true ∧ PyData.leavesShortKv 501 kvs = true ∧ nolK kvs = true ∧ ∀ t ∈ PyData.shownKv kvs, PyData.strOk t = true
  | [], _ => ⟨rfl, rfl, rfl, fun t h => by simp [PyData.shownKv] at h⟩
  | (x, y) :: r, h => by
    obtain ⟨h1, h2, h3⟩ := h (x, y) (by simp)
    obtain ⟨i1, i2, i3, i4⟩ := kv_sml r fun p hp => h p (List.mem_cons_of_mem _ hp)
    obtain ⟨_, a1, a2, a3, _⟩ := sml_lay x h1
    obtain ⟨_, b1, b2, b3, _⟩ := sml_lay y h2
    refine ⟨by simp [PyData.showableKv, a1, b1, i1], by simp [PyData.leavesShortKv, a2, b2, i2], by simp only [nolK, Bool.and_eq_true]; exact ⟨h3, i3⟩, fun t ht => ?_⟩
    rw [PyData.shownKv_cons] at ht
    rcases List.mem_cons.mp ht with e | e
    · subst e
      exact ok_app (ok_app (ok_show x a3) (by decide +kernel)) (ok_show y b3)
    · exact i4 t e
theorem kv_depth {k : Nat} : ∀ kvs : List (PyData × PyData), (∀ p ∈ kvs, p.1.depth ≤ k ∧ p.2.depth ≤ k) → PyData.depthKv kvs ≤ k
  | [], _ => Nat.zero_le _
  | (x, y) :: r, h => by
    have h1 := h (x, y) (by simp)
    have h2 := kv_depth r fun p hp => h p (List.mem_cons_of_mem _ hp)
    show max (max x.depth y.depth) (PyData.depthKv r) ≤ k
    have h3 : x.depth ≤ k ∧ y.depth ≤ k := h1
    omega
theorem kv_bulk {b : Nat} : ∀ kvs : List (PyData × PyData), (∀ p ∈ kvs, p.1.bulk ≤ b ∧ p.2.bulk ≤ b) → PyData.bulkKv kvs ≤ kvs.length * (2 * b + 2)
  | [], _ => Nat.zero_le _
  | (x, y) :: r, h => by
    have h1 : x.bulk ≤ b ∧ y.bulk ≤ b := h (x, y) (by simp)
    have h2 := kv_bulk r fun p hp => h p (List.mem_cons_of_mem _ hp)
    show x.bulk + y.bulk + 2 + PyData.bulkKv r ≤ (r.length + 1) * (2 * b + 2)
    rw [Nat.add_mul]
    omega
theorem SmK.repr {k b : Nat} {kvs : List (PyData × PyData)} (h : SmK k b kvs) (hk : k ≤ 50) (hb : kvs.length * (2 * b + 2) ≤ 30000) : ∃ s : Str, fnD .repr [.dict kvs] = some (.v (.str s)) ∧ cmpD .NotEq (.str s) (.str s) = some false ∧ cmpD .Eq (.str s) (.str s) = some true := by
  obtain ⟨h1, h2, h3, h4⟩ := kv_sml kvs h.s
  have h5 := kv_depth kvs h.d
  have h6 := kv_bulk kvs h.b
  have ok : PyData.strOk (PyData.dict kvs).shown = true := by
    rw [PyData.shown_dict]
    exact ok_app (ok_app (by decide +kernel) (ok_join (by decide +kernel) _ h4)) (by decide +kernel)
  have ln : (PyData.dict kvs).shown.length ≤ sizeLine := by
    have := PyData.shown_le_bulk 501 (by decide) (.dict kvs) (by simpa [PyData.leavesShort] using h2)
    have e : (PyData.dict kvs).bulk = PyData.bulkKv kvs := by simp [PyData.bulk]
    rw [e] at this
    rw [line_is]
    omega
  have s2 : SeqAt.shaped (.str (PyData.dict kvs).shown) = true := by
    simp [SeqAt.shaped, PyData.canLay0, PyData.depth, ok]
  refine ⟨(PyData.dict kvs).shown, if_pos ⟨by simpa [PyData.showable] using h1, ln, .inr (by simpa [nol, h.q] using h3), ?_⟩, ?_, ?_⟩
  · rw [ne_any s2 s2]
    simp [PyData.eqv]
  · rw [eq_any s2 s2]
    simp [PyData.eqv]
  · show PyData.depthKv kvs + 1 ≤ 60
    omega
/-! ### several values, starred -/
theorem getD_mapd : ∀ xs : List PyData, getD (xs.map Hd.d) = some xs
  | [] => rfl
  | x :: r => by
    show (getD (r.map Hd.d)).bind _ = _
    rw [getD_mapd r]
    rfl
theorem getD_app2 (xs ys : List PyData) : getD (xs.map Hd.d ++ ys.map Hd.d) = some (xs ++ ys) := by
  rw [← List.map_append, getD_mapd]
/-! ### sorted -/
theorem insS_map {α β : Type} (f : α → β) (lt : α → α → Bool) (lt' : β → β → Bool) (h : ∀ a b, lt' (f a) (f b) = lt a b) (x : α) : ∀ l : List α, insS lt' (f x) (l.map f) = (insS lt x l).map f
  | [] => rfl
  | y :: r => by
    rw [List.map_cons]
    unfold insS
    rw [h, insS_map f lt lt' h x r]
    split <;> rfl
theorem sortS_map {α β : Type} (f : α → β) (lt : α → α → Bool) (lt' : β → β → Bool) (h : ∀ a b, lt' (f a) (f b) = lt a b) : ∀ l : List α, sortS lt' (l.map f) = (sortS lt l).map f
  | [] => rfl
  | x :: r => by
    show insS lt' (f x) (sortS lt' (r.map f)) = _
    rw [sortS_map f lt lt' h r, insS_map f lt lt' h]
    rfl
/-! ### dicts without doubles -/
theorem mergeD_fresh : ∀ (more kvs : List (PyData × PyData)), (∀ p ∈ more, ∃ k, keyD p.1 = some k) → ((kvs ++ more).map fun p => keyD p.1).Nodup → mergeD kvs more = kvs ++ more
  | [], kvs, _, _ => (List.append_nil kvs).symm
  | (a, b) :: r, kvs, h, hn => by
    obtain ⟨k, hk⟩ := h (a, b) (by simp)
    have hk : keyD a = some k := hk
    have e : mergeD kvs ((a, b) :: r) = mergeD (dput kvs a k b) r := by
      unfold mergeD
      rw [List.foldl_cons]
      show List.foldl _ (match keyD a with
        | some k => dput kvs a k b
        | none => kvs) r = _
      rw [hk]
    have nk : ¬ (kvs.any fun p => decide (keyD p.1 = some k)) = true := by
      intro z
      obtain ⟨p, hp, e2⟩ := List.any_eq_true.mp z
      have e2 := of_decide_eq_true e2
      rw [List.map_append, List.nodup_append] at hn
      exact hn.2.2 (keyD p.1) (List.mem_map.mpr ⟨p, hp, rfl⟩) (keyD a) (by simp) (by rw [e2, hk])
    have e3 : dput kvs a k b = kvs ++ [(a, b)] := by
      unfold dput
      rw [if_neg nk]
    rw [e, e3, mergeD_fresh r (kvs ++ [(a, b)]) (fun p hp => h p (List.mem_cons_of_mem _ hp)) (by simpa using hn)]
    simp
end PF

namespace Lk08
open PySem PySem.Spec PyProof.Rows L2 PF
def topS (i : Nat) : Stmt := PySem.Challenge.pw_flutterheld_k08_polygons_of_corners.main.body.getD i (.Pass ⟨0, 0, 0, 0⟩)
/-- common -/
def qt0_0 : IT := (.e (.cmp .NotEq (.x 1) (.k (.int 0))))
def qb0_0 : IB := (.cons (.par2 0 1 (.x 1) (.bin .Mod (.x 0) (.x 1))) .nil)
def qb0 : IB := (.cons (.par2 0 1 (.fn .abs (.cons (.x 0) .nil)) (.fn .abs (.cons (.x 1) .nil))) (.cons (.wh qt0_0 qb0_0 []) (.cons (.retx 0) .nil)))
def qd0 : Fn := { name := "common", ps := ["one", "other"], N := ["one", "other"], body := qb0 }
/-- reduced -/
def qb1 : IB := (.cons (.set 2 (.call 0 (.cons (.x 0) (.cons (.x 1) .nil)))) (.cons (.cond (.e (.cmp .Lt (.x 1) (.k (.int 0)))) (.cons (.set 2 (.neg (.x 2))) .nil) .nil) (.cons (.ret (.tup (.cons (.bin .FloorDiv (.x 0) (.x 2)) (.cons (.bin .FloorDiv (.x 1) (.x 2)) .nil)))) .nil)))
def qd1 : Fn := { name := "reduced", ps := ["n", "d"], N := ["n", "d", "shared"], body := qb1 }
/-- added -/
def qb2 : IB := (.cons (.ret (.call 1 (.cons (.bin .Add (.bin .Mult (.ix (.x 0) (.k (.int 0))) (.ix (.x 1) (.k (.int 1)))) (.bin .Mult (.ix (.x 1) (.k (.int 0))) (.ix (.x 0) (.k (.int 1))))) (.cons (.bin .Mult (.ix (.x 0) (.k (.int 1))) (.ix (.x 1) (.k (.int 1)))) .nil)))) .nil)
def qd2 : Fn := { name := "added", ps := ["one", "other"], N := ["one", "other"], body := qb2 }
/-- lessened -/
def qb3 : IB := (.cons (.ret (.call 1 (.cons (.bin .Sub (.bin .Mult (.ix (.x 0) (.k (.int 0))) (.ix (.x 1) (.k (.int 1)))) (.bin .Mult (.ix (.x 1) (.k (.int 0))) (.ix (.x 0) (.k (.int 1))))) (.cons (.bin .Mult (.ix (.x 0) (.k (.int 1))) (.ix (.x 1) (.k (.int 1)))) .nil)))) .nil)
def qd3 : Fn := { name := "lessened", ps := ["one", "other"], N := ["one", "other"], body := qb3 }
/-- times -/
def qb4 : IB := (.cons (.ret (.call 1 (.cons (.bin .Mult (.ix (.x 0) (.k (.int 0))) (.ix (.x 1) (.k (.int 0)))) (.cons (.bin .Mult (.ix (.x 0) (.k (.int 1))) (.ix (.x 1) (.k (.int 1)))) .nil)))) .nil)
def qd4 : Fn := { name := "times", ps := ["one", "other"], N := ["one", "other"], body := qb4 }
/-- over -/
def qb5 : IB := (.cons (.ret (.call 1 (.cons (.bin .Mult (.ix (.x 0) (.k (.int 0))) (.ix (.x 1) (.k (.int 1)))) (.cons (.bin .Mult (.ix (.x 0) (.k (.int 1))) (.ix (.x 1) (.k (.int 0)))) .nil)))) .nil)
def qd5 : Fn := { name := "over", ps := ["one", "other"], N := ["one", "other"], body := qb5 }
/-- compared -/
def qb6 : IB := (.cons (.par2 2 3 (.bin .Mult (.ix (.x 0) (.k (.int 0))) (.ix (.x 1) (.k (.int 1)))) (.bin .Mult (.ix (.x 1) (.k (.int 0))) (.ix (.x 0) (.k (.int 1))))) (.cons (.ret (.bin .Sub (.fn .int (.cons (.cmp .Gt (.x 2) (.x 3)) .nil)) (.fn .int (.cons (.cmp .Lt (.x 2) (.x 3)) .nil)))) .nil))
def qd6 : Fn := { name := "compared", ps := ["one", "other"], N := ["one", "other", "mine", "its"], body := qb6 }
/-- least_of -/
def qb7_0 : IB := (.cons (.set 1 (.ife (.e (.cmp .Lt (.call 6 (.cons (.x 2) (.cons (.x 1) .nil))) (.k (.int 0)))) (.x 2) (.x 1))) .nil)
def qb7 : IB := (.cons (.set 1 (.ix (.x 0) (.k (.int 0)))) (.cons (.for (.n 2) (.e (.x 0)) qb7_0 [0, 2]) (.cons (.retx 1) .nil)))
def qd7 : Fn := { name := "least_of", ps := ["some"], N := ["some", "found", "one"], body := qb7 }
/-- greatest_of -/
def qb8_0 : IB := (.cons (.set 1 (.ife (.e (.cmp .Gt (.call 6 (.cons (.x 2) (.cons (.x 1) .nil))) (.k (.int 0)))) (.x 2) (.x 1))) .nil)
def qb8 : IB := (.cons (.set 1 (.ix (.x 0) (.k (.int 0)))) (.cons (.for (.n 2) (.e (.x 0)) qb8_0 [0, 2]) (.cons (.retx 1) .nil)))
def qd8 : Fn := { name := "greatest_of", ps := ["some"], N := ["some", "found", "one"], body := qb8 }
/-- compared_corners -/
def qb9 : IB := (.cons (.set 2 (.call 6 (.cons (.ix (.x 0) (.k (.int 0))) (.cons (.ix (.x 1) (.k (.int 0))) .nil)))) (.cons (.ret (.ife (.e (.cmp .NotEq (.x 2) (.k (.int 0)))) (.x 2) (.call 6 (.cons (.ix (.x 0) (.k (.int 1))) (.cons (.ix (.x 1) (.k (.int 1))) .nil))))) .nil))
def qd9 : Fn := { name := "compared_corners", ps := ["one", "other"], N := ["one", "other", "first"], body := qb9 }
/-- in_order -/
def qt10_0 : IT := (.and (.e (.cmp .Gt (.x 3) (.k (.int 0)))) (.e (.cmp .Gt (.call 9 (.cons (.ix (.x 1) (.bin .Sub (.x 3) (.k (.int 1)))) (.cons (.x 2) .nil))) (.k (.int 0)))))
def qb10_0 : IB := (.cons (.aug 3 .Sub (.k (.int 1))) .nil)
def qb10_1 : IB := (.cons (.set 3 (.fn .len (.cons (.x 1) .nil))) (.cons (.wh qt10_0 qb10_0 [0]) (.cons (.cond (.or (.e (.cmp .Eq (.x 3) (.k (.int 0)))) (.e (.cmp .NotEq (.ix (.x 1) (.bin .Sub (.x 3) (.k (.int 1)))) (.x 2)))) (.cons (.ex (.mt .insert 1 (.cons (.x 3) (.cons (.x 2) .nil)))) .nil) .nil) .nil)))
def qb10 : IB := (.cons (.set 1 (.lst .nil)) (.cons (.for (.n 2) (.e (.x 0)) qb10_1 [0, 2, 3]) (.cons (.retx 1) .nil)))
def qd10 : Fn := { name := "in_order", ps := ["corners"], N := ["corners", "found", "corner", "at"], body := qb10 }
/-- do_turn_left -/
def qb11 : IB := (.cons (.set 3 (.call 4 (.cons (.call 3 (.cons (.ix (.x 1) (.k (.int 0))) (.cons (.ix (.x 0) (.k (.int 0))) .nil))) (.cons (.call 3 (.cons (.ix (.x 2) (.k (.int 1))) (.cons (.ix (.x 0) (.k (.int 1))) .nil))) .nil)))) (.cons (.set 4 (.call 4 (.cons (.call 3 (.cons (.ix (.x 1) (.k (.int 1))) (.cons (.ix (.x 0) (.k (.int 1))) .nil))) (.cons (.call 3 (.cons (.ix (.x 2) (.k (.int 0))) (.cons (.ix (.x 0) (.k (.int 0))) .nil))) .nil)))) (.cons (.ret (.cmp .Gt (.call 6 (.cons (.x 3) (.cons (.x 4) .nil))) (.k (.int 0)))) .nil)))
def qd11 : Fn := { name := "do_turn_left", ps := ["one", "two", "three"], N := ["one", "two", "three", "left", "right"], body := qb11 }
/-- half_round -/
def qt12_0 : IT := (.and (.e (.cmp .Gt (.fn .len (.cons (.x 1) .nil)) (.k (.int 1)))) (.not (.e (.call 11 (.cons (.ix (.x 1) (.neg (.k (.int 2)))) (.cons (.ix (.x 1) (.neg (.k (.int 1)))) (.cons (.x 2) .nil)))))))
def qb12_0 : IB := (.cons (.ex (.mt .pop 1 .nil)) .nil)
def qb12_1 : IB := (.cons (.wh qt12_0 qb12_0 [0]) (.cons (.ex (.mt .append 1 (.cons (.x 2) .nil))) .nil))
def qb12 : IB := (.cons (.set 1 (.lst .nil)) (.cons (.for (.n 2) (.e (.x 0)) qb12_1 [0, 2]) (.cons (.retx 1) .nil)))
def qd12 : Fn := { name := "half_round", ps := ["corners"], N := ["corners", "found", "corner"], body := qb12 }
/-- polygon_of -/
def qb13 : IB := (.cons (.set 1 (.call 10 (.cons (.x 0) .nil))) (.cons (.cond (.e (.cmp .Lt (.fn .len (.cons (.x 1) .nil)) (.k (.int 3)))) (.cons (.ret (.fn .tuple (.cons (.x 1) .nil))) .nil) .nil) (.cons (.par2 2 3 (.call 12 (.cons (.x 1) .nil)) (.call 12 (.cons (.rv (.x 1)) .nil))) (.cons (.ret (.fn .tuple (.cons (.bin .Add (.sl (.x 2) .no (.so (.neg (.k (.int 1))))) (.sl (.x 3) .no (.so (.neg (.k (.int 1)))))) .nil))) .nil))))
def qd13 : Fn := { name := "polygon_of", ps := ["corners"], N := ["corners", "line", "there", "back"], body := qb13 }
/-- crossing -/
def qb14 : IB := (.cons (.set 4 (.call 5 (.cons (.call 3 (.cons (.x 3) (.cons (.ix (.x 0) (.x 2)) .nil))) (.cons (.call 3 (.cons (.ix (.x 1) (.x 2)) (.cons (.ix (.x 0) (.x 2)) .nil))) .nil)))) (.cons (.ret (.fn .tuple (.cons (.lc [("mine", 5), ("its", 6)] (.t (.cons (.n 5) (.cons (.n 6) .nil))) (.zip (.x 0) (.x 1)) .yes (.call 2 (.cons (.x 5) (.cons (.call 4 (.cons (.x 4) (.cons (.call 3 (.cons (.x 6) (.cons (.x 5) .nil))) .nil))) .nil)))) .nil))) .nil))
def qd14 : Fn := { name := "crossing", ps := ["one", "other", "place", "bound"], N := ["one", "other", "place", "bound", "part", "mine", "its"], body := qb14 }
/-- cut_off -/
def qb15_0 : IB := (.cons (.set 7 (.ix (.x 0) (.bin .Mod (.bin .Add (.x 5) (.k (.int 1))) (.fn .len (.cons (.x 0) .nil))))) (.cons (.par2 8 9 (.bin .Mult (.call 6 (.cons (.ix (.x 6) (.x 1)) (.cons (.x 2) .nil))) (.x 3)) (.bin .Mult (.call 6 (.cons (.ix (.x 7) (.x 1)) (.cons (.x 2) .nil))) (.x 3))) (.cons (.cond (.e (.cmp .GtE (.x 8) (.k (.int 0)))) (.cons (.ex (.mt .append 4 (.cons (.x 6) .nil))) .nil) .nil) (.cons (.cond (.e (.cmp .Lt (.bin .Mult (.x 8) (.x 9)) (.k (.int 0)))) (.cons (.ex (.mt .append 4 (.cons (.call 14 (.cons (.x 6) (.cons (.x 7) (.cons (.x 1) (.cons (.x 2) .nil))))) .nil))) .nil) .nil) .nil))))
def qb15 : IB := (.cons (.set 4 (.lst .nil)) (.cons (.for (.t (.cons (.n 5) (.cons (.n 6) .nil))) (.enum (.x 0)) qb15_0 [5, 6, 7, 8, 9]) (.cons (.ret (.call 13 (.cons (.x 4) .nil))) .nil)))
def qd15 : Fn := { name := "cut_off", ps := ["polygon", "place", "bound", "sign"], N := ["polygon", "place", "bound", "sign", "found", "at", "one", "other", "mine", "its"], body := qb15 }
/-- cut_to -/
def qb16 : IB := (.cons (.ret (.call 15 (.cons (.call 15 (.cons (.x 0) (.cons (.k (.int 0)) (.cons (.x 1) (.cons (.k (.int 1)) .nil))))) (.cons (.k (.int 0)) (.cons (.x 2) (.cons (.neg (.k (.int 1))) .nil)))))) .nil)
def qd16 : Fn := { name := "cut_to", ps := ["polygon", "low", "high"], N := ["polygon", "low", "high"], body := qb16 }
/-- longs_at -/
def qb17 : IB := (.cons (.set 2 (.lc [("its", 3), ("long", 4)] (.t (.cons (.n 3) (.cons (.n 4) .nil))) (.e (.call 16 (.cons (.x 0) (.cons (.x 1) (.cons (.x 1) .nil))))) .yes (.x 4))) (.cons (.ret (.ife (.e (.cmp .NotEq (.x 2) (.lst .nil))) (.tup (.cons (.call 7 (.cons (.x 2) .nil)) (.cons (.call 8 (.cons (.x 2) .nil)) .nil))) (.k .none))) .nil))
def qd17 : Fn := { name := "longs_at", ps := ["polygon", "moment"], N := ["polygon", "moment", "longs", "its", "long"], body := qb17 }
/-- moments_in -/
def qb18 : IB := (.cons (.cond (.e (.cmp .Eq (.x 0) (.tup .nil))) (.cons (.ret (.k .none)) .nil) .nil) (.cons (.ret (.tup (.cons (.ix (.ix (.x 0) (.k (.int 0))) (.k (.int 0))) (.cons (.call 8 (.cons (.lc [("moment", 1), ("long", 2)] (.t (.cons (.n 1) (.cons (.n 2) .nil))) (.e (.x 0)) .yes (.x 1)) .nil)) .nil)))) .nil))
def qd18 : Fn := { name := "moments_in", ps := ["polygon"], N := ["polygon", "moment", "long"], body := qb18 }
/-- has_point -/
def qb19 : IB := (.cons (.set 2 (.call 17 (.cons (.x 0) (.cons (.ix (.x 1) (.k (.int 0))) .nil)))) (.cons (.ret (.and (.cmp .IsNot (.x 2) (.k .none)) (.and (.cmp .LtE (.call 6 (.cons (.ix (.x 2) (.k (.int 0))) (.cons (.ix (.x 1) (.k (.int 1))) .nil))) (.k (.int 0))) (.cmp .LtE (.call 6 (.cons (.ix (.x 1) (.k (.int 1))) (.cons (.ix (.x 2) (.k (.int 1))) .nil))) (.k (.int 0)))))) .nil))
def qd19 : Fn := { name := "has_point", ps := ["polygon", "corner"], N := ["polygon", "corner", "longs"], body := qb19 }
/-- _law_bag -/
def qb20 : IB := (.cons (.ret (.lst (.cons (.k (.int 0)) (.cons (.k (.int 1234567891)) (.cons (.k (.int 0)) (.cons (.lc [("_law_cell", 1)] (.n 1) (.e (.sl (.x 0) .no (.so (.k (.int 63))))) .yes (.fn .abs (.cons (.x 1) .nil))) .nil)))))) .nil)
def qd20 : Fn := { name := "_law_bag", ps := ["_law_script"], N := ["_law_script", "_law_cell"], body := qb20 }
/-- _law_take -/
def qb21 : IB := (.cons (.cond (.e (.cmp .Eq (.ix (.x 0) (.k (.int 0))) (.k (.int 0)))) (.cons (.set 4 (.ix (.bin .Add (.sl (.ix (.x 0) (.k (.int 3))) (.so (.ix (.x 0) (.k (.int 2)))) .no) (.lst (.cons (.k (.int 0)) .nil))) (.k (.int 0)))) (.cons (.aix 0 (.k (.int 2)) .Add (.k (.int 1))) (.cons (.cond (.e (.cmp .GtE (.x 4) (.bin .Pow (.k (.int 10)) (.k (.int 18))))) (.cons (.six 0 (.k (.int 0)) (.x 4)) .nil) .nil) (.cons (.set 5 (.bin .Add (.bin .Add (.bin .Mult (.ix (.x 0) (.k (.int 1))) (.k (.int 48271))) (.bin .Mod (.fn .int (.cons (.x 4) .nil)) (.k (.int 2147483647)))) (.bin .Mult (.k (.int 7919)) (.ix (.x 0) (.k (.int 2)))))) (.cons (.six 0 (.k (.int 1)) (.bin .Mod (.fn .int (.cons (.x 5) .nil)) (.k (.int 2147483647)))) .nil))))) .nil) (.cons (.cond (.e (.cmp .Gt (.ix (.x 0) (.k (.int 0))) (.k (.int 0)))) (.cons (.set 6 (.bin .Mod (.fn .int (.cons (.ix (.x 0) (.k (.int 0))) .nil)) (.x 1))) (.cons (.six 0 (.k (.int 0)) (.bin .FloorDiv (.fn .int (.cons (.ix (.x 0) (.k (.int 0))) .nil)) (.x 1))) (.cons (.retx 6) .nil))) .nil) (.cons (.set 2 (.bin .Mod (.fn .int (.cons (.bin .Mult (.bin .Add (.ix (.x 0) (.k (.int 1))) (.k (.int 1))) (.k (.int 39373))) .nil)) (.k (.int 1000000007)))) (.cons (.set 3 (.bin .Mod (.fn .int (.cons (.bin .Mult (.bin .Mod (.fn .int (.cons (.bin .Mult (.x 2) (.x 2)) .nil)) (.k (.int 998244353))) (.k (.int 30011))) .nil)) (.k (.int 998244353)))) (.cons (.ret (.bin .Mod (.fn .int (.cons (.bin .FloorDiv (.x 3) (.k (.int 7))) .nil)) (.x 1))) .nil)))))
def qd21 : Fn := { name := "_law_take", ps := ["_law_bag_here", "_law_many"], N := ["_law_bag_here", "_law_many", "_law_begin", "_law_second", "_law_cell", "_law_stirred", "_law_value"], body := qb21 }
/-- _law_some -/
def qb22 : IB := (.cons (.ret (.ix (.x 1) (.call 21 (.io 0 (.cons (.fn .len (.cons (.x 1) .nil)) .nil))))) .nil)
def qd22 : Fn := { name := "_law_some", ps := ["_law_bag_here", "_law_things"], N := ["_law_bag_here", "_law_things"], body := qb22 }
/-- _law_mixed -/
def qb23_0 : IB := (.cons (.ex (.mt .insert 2 (.cons (.call 21 (.io 0 (.cons (.bin .Add (.fn .len (.cons (.x 2) .nil)) (.k (.int 1))) .nil))) (.cons (.x 3) .nil)))) .nil)
def qb23 : IB := (.cons (.set 2 (.lst .nil)) (.cons (.for (.n 3) (.e (.x 1)) qb23_0 [1, 3]) (.cons (.retx 2) .nil)))
def qd23 : Fn := { name := "_law_mixed", ps := ["_law_bag_here", "_law_things"], N := ["_law_bag_here", "_law_things", "_law_found", "_law_thing"], body := qb23 }
/-- _law_alike -/
def qb24 : IB := (.cons (.ret (.and (.cmp .Eq (.x 0) (.x 1)) (.cmp .Eq (.fn .repr (.cons (.x 0) .nil)) (.fn .repr (.cons (.x 1) .nil))))) .nil)
def qd24 : Fn := { name := "_law_alike", ps := ["_law_found", "_law_due"], N := ["_law_found", "_law_due"], body := qb24 }
/-- _law_ratio -/
def qt25_0 : IT := (.e (.cmp .Gt (.x 3) (.k (.int 0))))
def qb25_0 : IB := (.cons (.par2 2 3 (.x 3) (.bin .Mod (.fn .int (.cons (.x 2) .nil)) (.x 3))) .nil)
def qb25 : IB := (.cons (.par2 2 3 (.fn .abs (.cons (.x 0) .nil)) (.fn .abs (.cons (.x 1) .nil))) (.cons (.wh qt25_0 qb25_0 []) (.cons (.set 2 (.ife (.e (.cmp .Gt (.x 1) (.k (.int 0)))) (.x 2) (.neg (.x 2)))) (.cons (.ret (.tup (.cons (.bin .FloorDiv (.fn .int (.cons (.x 0) .nil)) (.x 2)) (.cons (.bin .FloorDiv (.fn .int (.cons (.x 1) .nil)) (.x 2)) .nil)))) .nil))))
def qd25 : Fn := { name := "_law_ratio", ps := ["_law_n", "_law_d"], N := ["_law_n", "_law_d", "_law_one", "_law_other"], body := qb25 }
/-- _law_plus -/
def qb26 : IB := (.cons (.ret (.call 25 (.cons (.bin .Add (.bin .Mult (.ix (.x 0) (.k (.int 0))) (.ix (.x 1) (.k (.int 1)))) (.bin .Mult (.ix (.x 1) (.k (.int 0))) (.ix (.x 0) (.k (.int 1))))) (.cons (.bin .Mult (.ix (.x 0) (.k (.int 1))) (.ix (.x 1) (.k (.int 1)))) .nil)))) .nil)
def qd26 : Fn := { name := "_law_plus", ps := ["_law_x", "_law_y"], N := ["_law_x", "_law_y"], body := qb26 }
/-- _law_less -/
def qb27 : IB := (.cons (.ret (.call 25 (.cons (.bin .Sub (.bin .Mult (.ix (.x 0) (.k (.int 0))) (.ix (.x 1) (.k (.int 1)))) (.bin .Mult (.ix (.x 1) (.k (.int 0))) (.ix (.x 0) (.k (.int 1))))) (.cons (.bin .Mult (.ix (.x 0) (.k (.int 1))) (.ix (.x 1) (.k (.int 1)))) .nil)))) .nil)
def qd27 : Fn := { name := "_law_less", ps := ["_law_x", "_law_y"], N := ["_law_x", "_law_y"], body := qb27 }
/-- _law_by -/
def qb28 : IB := (.cons (.ret (.call 25 (.cons (.bin .Mult (.ix (.x 0) (.k (.int 0))) (.ix (.x 1) (.k (.int 0)))) (.cons (.bin .Mult (.ix (.x 0) (.k (.int 1))) (.ix (.x 1) (.k (.int 1)))) .nil)))) .nil)
def qd28 : Fn := { name := "_law_by", ps := ["_law_x", "_law_y"], N := ["_law_x", "_law_y"], body := qb28 }
/-- _law_sign -/
def qb29 : IB := (.cons (.ret (.bin .Sub (.bin .Mult (.ix (.x 0) (.k (.int 0))) (.ix (.x 1) (.k (.int 1)))) (.bin .Mult (.ix (.x 1) (.k (.int 0))) (.ix (.x 0) (.k (.int 1)))))) .nil)
def qd29 : Fn := { name := "_law_sign", ps := ["_law_x", "_law_y"], N := ["_law_x", "_law_y"], body := qb29 }
/-- _law_amount -/
def qb30 : IB := (.cons (.set 1 (.lst (.cons (.tup (.cons (.k (.int 0)) (.cons (.k (.int 1)) .nil))) (.cons (.tup (.cons (.k (.int 1)) (.cons (.k (.int 2)) .nil))) (.cons (.tup (.cons (.k (.int 1)) (.cons (.k (.int 1)) .nil))) (.cons (.tup (.cons (.k (.int 3)) (.cons (.k (.int 2)) .nil))) (.cons (.tup (.cons (.k (.int 1)) (.cons (.k (.int 3)) .nil))) (.cons (.tup (.cons (.k (.int 2)) (.cons (.k (.int 1)) .nil))) (.cons (.tup (.cons (.k (.int 1)) (.cons (.k (.int 4)) .nil))) (.cons (.tup (.cons (.k (.int 5)) (.cons (.k (.int 3)) .nil))) (.cons (.tup (.cons (.k (.int 0)) (.cons (.k (.int 1)) .nil))) .nil))))))))))) (.cons (.ret (.call 22 (.io 0 (.cons (.bin .Add (.x 1) (.lst (.cons (.call 25 (.cons (.call 21 (.io 0 (.cons (.k (.int 40)) .nil))) (.cons (.bin .Add (.k (.int 1)) (.call 21 (.io 0 (.cons (.k (.int 12)) .nil)))) .nil))) .nil))) .nil)))) .nil))
def qd30 : Fn := { name := "_law_amount", ps := ["_law_bag_here"], N := ["_law_bag_here", "_law_some_here"], body := qb30 }
/-- _law_bounds -/
def qb31 : IB := (.cons (.tgt (.cons (.n 1) (.cons (.n 2) .nil)) (.call 22 (.io 0 (.cons (.lst (.cons (.tup (.cons (.k (.int 2)) (.cons (.k (.int 3)) .nil))) (.cons (.tup (.cons (.k (.int 1)) (.cons (.k (.int 2)) .nil))) (.cons (.tup (.cons (.k (.int 1)) (.cons (.k (.int 3)) .nil))) (.cons (.tup (.cons (.k (.int 2)) (.cons (.k (.int 2)) .nil))) (.cons (.tup (.cons (.k (.int 3)) (.cons (.k (.int 5)) .nil))) (.cons (.tup (.cons (.k (.int 1)) (.cons (.k (.int 1)) .nil))) (.cons (.tup (.cons (.k (.int 2)) (.cons (.k (.int 4)) .nil))) (.cons (.tup (.cons (.k (.int 3)) (.cons (.k (.int 4)) .nil))) (.cons (.tup (.cons (.k (.int 1)) (.cons (.k (.int 5)) .nil))) .nil)))))))))) .nil)))) (.cons (.par3 3 4 5 (.call 30 (.io 0 .nil)) (.call 30 (.io 0 .nil)) (.call 22 (.io 0 (.cons (.lst (.cons (.k (.int 1)) (.cons (.k (.int 2)) (.cons (.k (.int 1)) (.cons (.k (.int 3)) .nil))))) .nil)))) (.cons (.set 6 (.call 22 (.io 0 (.cons (.lst (.cons (.k (.int 4)) (.cons (.k (.int 1)) (.cons (.k (.int 2)) (.cons (.k (.int 9)) (.cons (.k (.int 16)) (.cons (.k (.int 22)) (.cons (.k (.int 40)) (.cons (.bin .Add (.k (.int 1)) (.call 21 (.io 0 (.cons (.k (.int 30)) .nil)))) (.cons (.k (.int 1000)) .nil)))))))))) .nil)))) (.cons (.ret (.tup (.cons (.x 6) (.cons (.x 3) (.cons (.x 4) (.cons (.x 1) (.cons (.x 2) (.cons (.x 5) .nil)))))))) .nil))))
def qd31 : Fn := { name := "_law_bounds", ps := ["_law_bag_here"], N := ["_law_bag_here", "_law_lo", "_law_most", "_law_drift", "_law_shift", "_law_lead", "_law_cell"], body := qb31 }
/-- _law_in_order -/
def qb32_0 : IB := (.cons (.set 3 (.fn .len (.cons (.lcl [("_law_other", 4)] 1 (.n 4) (.e (.cmp .LtE (.call 29 (.cons (.x 4) (.cons (.x 2) .nil))) (.k (.int 0)))) (.x 4)) .nil))) (.cons (.ex (.mt .insert 1 (.cons (.x 3) (.cons (.x 2) .nil)))) .nil))
def qb32 : IB := (.cons (.set 1 (.lst .nil)) (.cons (.for (.n 2) (.e (.x 0)) qb32_0 [0, 2, 3, 4]) (.cons (.ret (.fn .tuple (.cons (.x 1) .nil))) .nil)))
def qd32 : Fn := { name := "_law_in_order", ps := ["_law_some_here"], N := ["_law_some_here", "_law_found", "_law_one", "_law_at", "_law_other"], body := qb32 }
/-- _law_is_whole -/
def qb33 : IB := (.cons (.ret (.and (.isi (.x 0) "int") (.not (.isi (.x 0) "bool")))) .nil)
def qd33 : Fn := { name := "_law_is_whole", ps := ["_law_thing"], N := ["_law_thing"], body := qb33 }
/-- _law_is_fraction -/
def qb34 : IB := (.cons (.cond (.or (.not (.e (.isi (.x 0) "tuple"))) (.or (.e (.cmp .NotEq (.fn .len (.cons (.x 0) .nil)) (.k (.int 2)))) (.or (.not (.e (.call 33 (.cons (.ix (.x 0) (.k (.int 0))) .nil)))) (.not (.e (.call 33 (.cons (.ix (.x 0) (.k (.int 1))) .nil))))))) (.cons (.ret (.k (.bool false))) .nil) .nil) (.cons (.ret (.and (.cmp .Gt (.ix (.x 0) (.k (.int 1))) (.k (.int 0))) (.cmp .Eq (.call 25 (.cons (.ix (.x 0) (.k (.int 0))) (.cons (.ix (.x 0) (.k (.int 1))) .nil))) (.x 0)))) .nil))
def qd34 : Fn := { name := "_law_is_fraction", ps := ["_law_thing"], N := ["_law_thing"], body := qb34 }
/-- _law_cross -/
def qb35 : IB := (.cons (.set 3 (.call 28 (.cons (.call 27 (.cons (.ix (.x 1) (.k (.int 0))) (.cons (.ix (.x 0) (.k (.int 0))) .nil))) (.cons (.call 27 (.cons (.ix (.x 2) (.k (.int 1))) (.cons (.ix (.x 0) (.k (.int 1))) .nil))) .nil)))) (.cons (.ret (.call 29 (.cons (.x 3) (.cons (.call 28 (.cons (.call 27 (.cons (.ix (.x 1) (.k (.int 1))) (.cons (.ix (.x 0) (.k (.int 1))) .nil))) (.cons (.call 27 (.cons (.ix (.x 2) (.k (.int 0))) (.cons (.ix (.x 0) (.k (.int 0))) .nil))) .nil))) .nil)))) .nil))
def qd35 : Fn := { name := "_law_cross", ps := ["_law_one", "_law_two", "_law_three"], N := ["_law_one", "_law_two", "_law_three", "_law_first"], body := qb35 }
/-- _law_before -/
def qb36 : IB := (.cons (.set 2 (.call 29 (.cons (.ix (.x 0) (.k (.int 0))) (.cons (.ix (.x 1) (.k (.int 0))) .nil)))) (.cons (.ret (.or (.cmp .Lt (.x 2) (.k (.int 0))) (.and (.cmp .Eq (.x 2) (.k (.int 0))) (.cmp .Lt (.call 29 (.cons (.ix (.x 0) (.k (.int 1))) (.cons (.ix (.x 1) (.k (.int 1))) .nil))) (.k (.int 0)))))) .nil))
def qd36 : Fn := { name := "_law_before", ps := ["_law_one", "_law_other"], N := ["_law_one", "_law_other", "_law_first"], body := qb36 }
/-- _law_is_corner -/
def qb37 : IB := (.cons (.ret (.and (.isi (.x 0) "tuple") (.and (.cmp .Eq (.fn .len (.cons (.x 0) .nil)) (.k (.int 2))) (.and (.call 34 (.cons (.ix (.x 0) (.k (.int 0))) .nil)) (.call 34 (.cons (.ix (.x 0) (.k (.int 1))) .nil)))))) .nil)
def qd37 : Fn := { name := "_law_is_corner", ps := ["_law_thing"], N := ["_law_thing"], body := qb37 }
/-- _law_is_polygon -/
def qb38_0 : IB := (.cons (.parn [3, 4] (.cons (.ix (.x 0) (.x 2)) (.cons (.ix (.bin .Add (.x 0) (.x 0)) (.bin .Add (.x 2) (.k (.int 1)))) .nil))) (.cons (.cond (.e (.cmp .NotEq (.lc [("_law_three", 5)] (.n 5) (.e (.x 0)) (.and (.e (.cmp .NotEq (.x 5) (.x 3))) (.and (.e (.cmp .NotEq (.x 5) (.x 4))) (.e (.cmp .LtE (.call 35 (.cons (.x 3) (.cons (.x 4) (.cons (.x 5) .nil)))) (.k (.int 0)))))) (.x 5)) (.lst .nil))) (.cons (.ret (.k (.bool false))) .nil) .nil) .nil))
def qb38 : IB := (.cons (.cond (.or (.not (.e (.isi (.x 0) "tuple"))) (.e (.cmp .NotEq (.lc [("_law_one", 3)] (.n 3) (.e (.x 0)) (.not (.e (.call 37 (.cons (.x 3) .nil)))) (.x 3)) (.lst .nil)))) (.cons (.ret (.k (.bool false))) .nil) .nil) (.cons (.set 1 (.fn .len (.cons (.x 0) .nil))) (.cons (.cond (.e (.cmp .NotEq (.lc [("_law_k", 2)] (.n 2) (.r2 (.k (.int 1)) (.x 1)) (.not (.e (.call 36 (.cons (.ix (.x 0) (.k (.int 0))) (.cons (.ix (.x 0) (.x 2)) .nil))))) (.x 2)) (.lst .nil))) (.cons (.ret (.k (.bool false))) .nil) .nil) (.cons (.for (.n 2) (.r1 (.ife (.e (.cmp .Gt (.x 1) (.k (.int 2)))) (.x 1) (.k (.int 0)))) qb38_0 [2, 3, 4, 5]) (.cons (.ret (.cmp .Eq (.fn .len (.cons (.lc [("_law_k", 2)] (.n 2) (.r1 (.x 1)) (.e (.cmp .In (.ix (.x 0) (.x 2)) (.sl (.x 0) .no (.so (.x 2))))) (.x 2)) .nil)) (.k (.int 0)))) .nil)))))
def qd38 : Fn := { name := "_law_is_polygon", ps := ["_law_thing"], N := ["_law_thing", "_law_many", "_law_k", "_law_one", "_law_two", "_law_three"], body := qb38 }
/-- _law_is_amid -/
def qb39 : IB := (.cons (.ret (.cmp .Eq (.ix (.call 32 (.cons (.lst (.cons (.x 0) (.cons (.x 1) (.cons (.x 2) .nil)))) .nil)) (.k (.int 1))) (.x 2))) .nil)
def qd39 : Fn := { name := "_law_is_amid", ps := ["_law_one", "_law_other", "_law_amid"], N := ["_law_one", "_law_other", "_law_amid"], body := qb39 }
/-- _law_lies_in -/
def qb40 : IB := (.cons (.cond (.e (.cmp .Lt (.fn .len (.cons (.x 0) .nil)) (.k (.int 2)))) (.cons (.ret (.cmp .In (.x 1) (.x 0))) .nil) .nil) (.cons (.cond (.e (.cmp .Eq (.fn .len (.cons (.x 0) .nil)) (.k (.int 2)))) (.cons (.tgt (.cons (.n 3) (.cons (.n 4) .nil)) (.x 0)) (.cons (.set 5 (.and (.call 39 (.cons (.ix (.x 3) (.k (.int 0))) (.cons (.ix (.x 4) (.k (.int 0))) (.cons (.ix (.x 1) (.k (.int 0))) .nil)))) (.call 39 (.cons (.ix (.x 3) (.k (.int 1))) (.cons (.ix (.x 4) (.k (.int 1))) (.cons (.ix (.x 1) (.k (.int 1))) .nil)))))) (.cons (.ret (.and (.x 5) (.cmp .Eq (.call 35 (.cons (.x 3) (.cons (.x 4) (.cons (.x 1) .nil)))) (.k (.int 0))))) .nil))) .nil) (.cons (.set 2 (.bin .Add (.x 0) (.sl (.x 0) .no (.so (.k (.int 1)))))) (.cons (.ret (.cmp .Eq (.lc [("_law_k", 6)] (.n 6) (.r1 (.fn .len (.cons (.x 0) .nil))) (.e (.cmp .Lt (.call 35 (.cons (.ix (.x 2) (.x 6)) (.cons (.ix (.x 2) (.bin .Add (.x 6) (.k (.int 1)))) (.cons (.x 1) .nil)))) (.k (.int 0)))) (.x 6)) (.lst .nil))) .nil))))
def qd40 : Fn := { name := "_law_lies_in", ps := ["_law_polygon", "_law_corner_here"], N := ["_law_polygon", "_law_corner_here", "_law_around", "_law_one", "_law_two", "_law_along", "_law_k"], body := qb40 }
/-- _law_longs -/
def qb41_0 : IB := (.cons (.par2 6 7 (.ix (.x 3) (.x 4)) (.ix (.x 3) (.bin .Add (.x 4) (.k (.int 1))))) (.cons (.par2 8 9 (.call 29 (.cons (.ix (.x 6) (.k (.int 0))) (.cons (.x 1) .nil))) (.call 29 (.cons (.ix (.x 7) (.k (.int 0))) (.cons (.x 1) .nil)))) (.cons (.cond (.e (.cmp .Eq (.x 8) (.k (.int 0)))) (.cons (.ex (.mt .append 2 (.cons (.ix (.x 6) (.k (.int 1))) .nil))) .nil) (.cons (.cond (.or (.and (.e (.cmp .Gt (.x 8) (.k (.int 0)))) (.e (.cmp .Lt (.x 9) (.k (.int 0))))) (.and (.e (.cmp .Lt (.x 8) (.k (.int 0)))) (.e (.cmp .Gt (.x 9) (.k (.int 0)))))) (.cons (.par2 10 11 (.call 27 (.cons (.x 1) (.cons (.ix (.x 6) (.k (.int 0))) .nil))) (.call 27 (.cons (.ix (.x 7) (.k (.int 0))) (.cons (.ix (.x 6) (.k (.int 0))) .nil)))) (.cons (.set 12 (.call 25 (.cons (.bin .Mult (.ix (.x 10) (.k (.int 0))) (.ix (.x 11) (.k (.int 1)))) (.cons (.bin .Mult (.ix (.x 10) (.k (.int 1))) (.ix (.x 11) (.k (.int 0)))) .nil)))) (.cons (.ex (.mt .append 2 (.cons (.call 26 (.cons (.ix (.x 6) (.k (.int 1))) (.cons (.call 28 (.cons (.x 12) (.cons (.call 27 (.cons (.ix (.x 7) (.k (.int 1))) (.cons (.ix (.x 6) (.k (.int 1))) .nil))) .nil))) .nil))) .nil))) .nil))) .nil) .nil)) .nil)))
def qb41 : IB := (.cons (.par2 2 3 (.lst .nil) (.bin .Add (.x 0) (.sl (.x 0) .no (.so (.k (.int 1)))))) (.cons (.for (.n 4) (.r1 (.fn .len (.cons (.x 0) .nil))) qb41_0 [0, 4, 5, 6, 7, 8, 9, 10, 11, 12]) (.cons (.set 5 (.call 32 (.cons (.x 2) .nil))) (.cons (.ret (.ife (.e (.cmp .NotEq (.x 2) (.lst .nil))) (.tup (.cons (.ix (.x 5) (.k (.int 0))) (.cons (.ix (.x 5) (.neg (.k (.int 1)))) .nil))) (.k .none))) .nil))))
def qd41 : Fn := { name := "_law_longs", ps := ["_law_polygon", "_law_moment"], N := ["_law_polygon", "_law_moment", "_law_found", "_law_around", "_law_k", "_law_ordered", "_law_one", "_law_other", "_law_here", "_law_there", "_law_way", "_law_gap", "_law_part"], body := qb41 }
/-- _law_corner -/
def qb42 : IB := (.cons (.set 2 (.call 25 (.cons (.call 21 (.io 0 (.cons (.k (.int 40)) .nil))) (.cons (.call 22 (.io 0 (.cons (.lst (.cons (.k (.int 1)) (.cons (.k (.int 1)) (.cons (.k (.int 2)) .nil)))) .nil))) .nil)))) (.cons (.ret (.tup (.cons (.x 2) (.cons (.call 26 (.cons (.tup (.cons (.ix (.x 1) (.k (.int 0))) (.cons (.k (.int 1)) .nil))) (.cons (.call 25 (.cons (.call 21 (.io 0 (.cons (.k (.int 12)) .nil))) (.cons (.call 22 (.io 0 (.cons (.lst (.cons (.k (.int 1)) (.cons (.k (.int 2)) (.cons (.k (.int 3)) .nil)))) .nil))) .nil))) .nil))) .nil)))) .nil))
def qd42 : Fn := { name := "_law_corner", ps := ["_law_bag_here", "_law_bounds_here"], N := ["_law_bag_here", "_law_bounds_here", "_law_moment"], body := qb42 }
/-- _law_some_corners -/
def qb43 : IB := (.cons (.set 2 (.lc [("_law_k", 5)] (.n 5) (.r1 (.call 22 (.io 0 (.cons (.lst (.cons (.k (.int 4)) (.cons (.k (.int 1)) (.cons (.k (.int 2)) (.cons (.k (.int 3)) (.cons (.k (.int 6)) (.cons (.k (.int 9)) .nil))))))) .nil)))) .yes (.call 42 (.io 0 (.cons (.x 1) .nil))))) (.cons (.cond (.e (.cmp .Eq (.call 21 (.io 0 (.cons (.k (.int 4)) .nil))) (.k (.int 0)))) (.cons (.set 3 (.ix (.x 2) (.k (.int 0)))) (.cons (.set 4 (.lc [("_law_k", 5)] (.n 5) (.r1 (.k (.int 4))) .yes (.tup (.cons (.call 26 (.cons (.ix (.x 3) (.k (.int 0))) (.cons (.tup (.cons (.x 5) (.cons (.k (.int 1)) .nil))) .nil))) (.cons (.call 26 (.cons (.ix (.x 3) (.k (.int 1))) (.cons (.call 25 (.cons (.x 5) (.cons (.k (.int 2)) .nil))) .nil))) .nil))))) (.cons (.ret (.call 23 (.io 0 (.cons (.x 4) .nil)))) .nil))) .nil) (.cons (.ret (.ife (.e (.cmp .Eq (.call 21 (.io 0 (.cons (.k (.int 3)) .nil))) (.k (.int 0)))) (.bin .Add (.x 2) (.sl (.x 2) .no (.so (.k (.int 1))))) (.x 2))) .nil)))
def qd43 : Fn := { name := "_law_some_corners", ps := ["_law_bag_here", "_law_bounds_here"], N := ["_law_bag_here", "_law_bounds_here", "_law_found", "_law_first", "_law_line", "_law_k"], body := qb43 }
/-- _law_is_asked_right -/
def qb44 : IB := (.cons (.cond (.not (.e (.call 24 (.cons (.call 19 (.cons (.x 1) (.cons (.x 2) .nil))) (.cons (.call 40 (.cons (.x 1) (.cons (.x 2) .nil))) .nil))))) (.cons (.ret (.k (.bool false))) .nil) .nil) (.cons (.ret (.call 24 (.cons (.call 17 (.cons (.x 1) (.cons (.ix (.x 2) (.k (.int 0))) .nil))) (.cons (.call 41 (.cons (.x 1) (.cons (.ix (.x 2) (.k (.int 0))) .nil))) .nil)))) .nil))
def qd44 : Fn := { name := "_law_is_asked_right", ps := ["_law_bag_here", "_law_polygon", "_law_corner_here"], N := ["_law_bag_here", "_law_polygon", "_law_corner_here"], body := qb44 }
/-- law -/
def qb45_0 : IB := (.cons (.set 9 (.call 22 (.io 1 (.cons (.bin .Add (.x 4) (.lst (.cons (.call 42 (.io 1 (.cons (.x 3) .nil))) .nil))) .nil)))) (.cons (.set 10 (.tup (.cons (.call 26 (.cons (.ix (.x 9) (.k (.int 0))) (.cons (.call 22 (.io 1 (.cons (.lst (.cons (.tup (.cons (.k (.int 0)) (.cons (.k (.int 1)) .nil))) (.cons (.tup (.cons (.k (.int 1)) (.cons (.k (.int 2)) .nil))) (.cons (.tup (.cons (.neg (.k (.int 1))) (.cons (.k (.int 3)) .nil))) .nil)))) .nil))) .nil))) (.cons (.ix (.x 9) (.k (.int 1))) .nil)))) (.cons (.set 10 (.tup (.cons (.ix (.x 10) (.k (.int 0))) (.cons (.call 26 (.cons (.ix (.x 10) (.k (.int 1))) (.cons (.call 22 (.io 1 (.cons (.lst (.cons (.tup (.cons (.k (.int 0)) (.cons (.k (.int 1)) .nil))) (.cons (.tup (.cons (.k (.int 1)) (.cons (.k (.int 2)) .nil))) (.cons (.tup (.cons (.neg (.k (.int 1))) (.cons (.k (.int 4)) .nil))) .nil)))) .nil))) .nil))) .nil)))) (.cons (.cond (.not (.e (.call 44 (.io 1 (.cons (.x 6) (.cons (.x 10) .nil)))))) (.cons (.ret (.k (.bool false))) .nil) .nil) .nil))))
def qb45_1 : IB := (.cons (.set 3 (.call 31 (.io 1 .nil))) (.cons (.set 4 (.call 43 (.io 1 (.cons (.x 3) .nil)))) (.cons (.parn [5, 6] (.cons (.fn .repr (.cons (.x 4) .nil)) (.cons (.call 13 (.cons (.x 4) .nil)) .nil))) (.cons (.cond (.or (.not (.e (.call 38 (.cons (.x 6) .nil)))) (.e (.cmp .NotEq (.lc [("_law_corner_here", 9)] (.n 9) (.e (.x 6)) (.e (.cmp .NotIn (.x 9) (.x 4))) (.x 9)) (.lst .nil)))) (.cons (.ret (.k (.bool false))) .nil) .nil) (.cons (.cond (.or (.e (.cmp .NotEq (.lc [("_law_corner_here", 9)] (.n 9) (.e (.x 4)) (.not (.e (.call 40 (.cons (.x 6) (.cons (.x 9) .nil))))) (.x 9)) (.lst .nil))) (.e (.cmp .NotEq (.fn .repr (.cons (.x 4) .nil)) (.x 5)))) (.cons (.ret (.k (.bool false))) .nil) .nil) (.cons (.cond (.not (.e (.call 24 (.cons (.call 13 (.cons (.fn .tuple (.cons (.call 23 (.io 1 (.cons (.x 4) .nil))) .nil)) .nil)) (.cons (.x 6) .nil))))) (.cons (.ret (.k (.bool false))) .nil) .nil) (.cons (.set 7 (.call 32 (.cons (.lc [("_law_corner_here", 9)] (.n 9) (.e (.x 4)) .yes (.ix (.x 9) (.k (.int 0)))) .nil))) (.cons (.cond (.not (.e (.call 24 (.cons (.call 18 (.cons (.x 6) .nil)) (.cons (.tup (.cons (.ix (.x 7) (.k (.int 0))) (.cons (.ix (.x 7) (.neg (.k (.int 1)))) .nil))) .nil))))) (.cons (.ret (.k (.bool false))) .nil) .nil) (.cons (.for (.n 8) (.r1 (.k (.int 6))) qb45_0 [0, 2, 5, 7, 8, 9, 10]) .nil)))))))))
def qb45 : IB := (.cons (.set 1 (.call 20 (.cons (.x 0) .nil))) (.cons (.cond (.not (.e (.call 24 (.cons (.lst (.cons (.call 13 (.cons (.lst .nil) .nil)) (.cons (.call 13 (.cons (.tup .nil) .nil)) (.cons (.call 18 (.cons (.tup .nil) .nil)) (.cons (.call 17 (.cons (.tup .nil) (.cons (.tup (.cons (.k (.int 1)) (.cons (.k (.int 1)) .nil))) .nil))) .nil))))) (.cons (.lst (.cons (.tup .nil) (.cons (.tup .nil) (.cons (.k .none) (.cons (.k .none) .nil))))) .nil))))) (.cons (.ret (.k (.bool false))) .nil) .nil) (.cons (.for (.n 2) (.r1 (.k (.int 7))) qb45_1 [0, 2, 3, 4, 5, 6, 7, 8, 9, 10]) (.cons (.ret (.k (.bool true))) .nil))))
def qd45 : Fn := { name := "law", ps := ["_law_script"], N := ["_law_script", "_law_bag_here", "_law_turn", "_law_bounds_here", "_law_corners", "_law_text", "_law_told", "_law_moments", "_law_step", "_law_corner_here", "_law_near"], body := qb45 }
def defs : List Fn := [qd0, qd1, qd2, qd3, qd4, qd5, qd6, qd7, qd8, qd9, qd10, qd11, qd12, qd13, qd14, qd15, qd16, qd17, qd18, qd19, qd20, qd21, qd22, qd23, qd24, qd25, qd26, qd27, qd28, qd29, qd30, qd31, qd32, qd33, qd34, qd35, qd36, qd37, qd38, qd39, qd40, qd41, qd42, qd43, qd44, qd45]
def fns : List Str := defs.map (·.name)
def cons : List (Str × PyData) := []
theorem chk0 : chkA fns cons qd0 (topS 1) = true := by decide +kernel
theorem chk1 : chkA fns cons qd1 (topS 2) = true := by decide +kernel
theorem chk2 : chkA fns cons qd2 (topS 3) = true := by decide +kernel
theorem chk3 : chkA fns cons qd3 (topS 4) = true := by decide +kernel
theorem chk4 : chkA fns cons qd4 (topS 5) = true := by decide +kernel
theorem chk5 : chkA fns cons qd5 (topS 6) = true := by decide +kernel
theorem chk6 : chkA fns cons qd6 (topS 7) = true := by decide +kernel
theorem chk7 : chkA fns cons qd7 (topS 8) = true := by decide +kernel
theorem chk8 : chkA fns cons qd8 (topS 9) = true := by decide +kernel
theorem chk9 : chkA fns cons qd9 (topS 11) = true := by decide +kernel
theorem chk10 : chkA fns cons qd10 (topS 12) = true := by decide +kernel
theorem chk11 : chkA fns cons qd11 (topS 13) = true := by decide +kernel
theorem chk12 : chkA fns cons qd12 (topS 14) = true := by decide +kernel
theorem chk13 : chkA fns cons qd13 (topS 15) = true := by decide +kernel
theorem chk14 : chkA fns cons qd14 (topS 16) = true := by decide +kernel
theorem chk15 : chkA fns cons qd15 (topS 17) = true := by decide +kernel
theorem chk16 : chkA fns cons qd16 (topS 18) = true := by decide +kernel
theorem chk17 : chkA fns cons qd17 (topS 19) = true := by decide +kernel
theorem chk18 : chkA fns cons qd18 (topS 20) = true := by decide +kernel
theorem chk19 : chkA fns cons qd19 (topS 21) = true := by decide +kernel
theorem chk20 : chkA fns cons qd20 (topS 23) = true := by decide +kernel
theorem chk21 : chkA fns cons qd21 (topS 24) = true := by decide +kernel
theorem chk22 : chkA fns cons qd22 (topS 25) = true := by decide +kernel
theorem chk23 : chkA fns cons qd23 (topS 26) = true := by decide +kernel
theorem chk24 : chkA fns cons qd24 (topS 27) = true := by decide +kernel
theorem chk25 : chkA fns cons qd25 (topS 28) = true := by decide +kernel
theorem chk26 : chkA fns cons qd26 (topS 29) = true := by decide +kernel
theorem chk27 : chkA fns cons qd27 (topS 30) = true := by decide +kernel
theorem chk28 : chkA fns cons qd28 (topS 31) = true := by decide +kernel
theorem chk29 : chkA fns cons qd29 (topS 32) = true := by decide +kernel
theorem chk30 : chkA fns cons qd30 (topS 33) = true := by decide +kernel
theorem chk31 : chkA fns cons qd31 (topS 34) = true := by decide +kernel
theorem chk32 : chkA fns cons qd32 (topS 35) = true := by decide +kernel
theorem chk33 : chkA fns cons qd33 (topS 36) = true := by decide +kernel
theorem chk34 : chkA fns cons qd34 (topS 37) = true := by decide +kernel
theorem chk35 : chkA fns cons qd35 (topS 38) = true := by decide +kernel
theorem chk36 : chkA fns cons qd36 (topS 39) = true := by decide +kernel
theorem chk37 : chkA fns cons qd37 (topS 40) = true := by decide +kernel
theorem chk38 : chkA fns cons qd38 (topS 41) = true := by decide +kernel
theorem chk39 : chkA fns cons qd39 (topS 42) = true := by decide +kernel
theorem chk40 : chkA fns cons qd40 (topS 43) = true := by decide +kernel
theorem chk41 : chkA fns cons qd41 (topS 44) = true := by decide +kernel
theorem chk42 : chkA fns cons qd42 (topS 45) = true := by decide +kernel
theorem chk43 : chkA fns cons qd43 (topS 46) = true := by decide +kernel
theorem chk44 : chkA fns cons qd44 (topS 47) = true := by decide +kernel
theorem chk45 : chkA fns cons qd45 (topS 48) = true := by decide +kernel
def FU : Nat := 10 ^ 400
theorem run_at (n f : Nat) (as : List Sl) (fn : Fn) (h : defs[f]? = some fn) (ht : fn.tr = none := by rfl) (hf : fn.ft = none := by rfl) (hw : fn.thaw = false := by rfl) : runP cons FU defs (n + 1) f as = runFn (runP cons FU defs n) cons FU fn as := congrFun (runP_no h ht hf hw) as
theorem at_def {n f : Nat} {as : List Sl} (fn : Fn) (h : defs[f]? = some fn) (hl : as.length = fn.ps.length) (ht : fn.tr = none := by rfl) (hf : fn.ft = none := by rfl) (hw : fn.thaw = false := by rfl) : runP cons FU defs (n + 1) f as = (runB (runP cons FU defs n) cons FU fn.body (startE fn.N.length as)).bind fun fl => match fl with
    | .nx env => (outA as env).bind fun l => some (.v .none, l)
    | .rt r env => (outA as env).bind fun l => some (r, l)
    | _ => none := by
  exact (run_at n f as fn h ht hf hw).trans ((runFn_eq hl).trans rfl)
theorem take_at (n : Nat) (b : Bag) (m : Int) (k : Nat) (h : b.Ok k) (hn : k ≤ 10 ^ 9) (hm : 0 < m) (hm2 : m.natAbs < 10 ^ 60) :
    ∃ (r : Int) (b' : Bag), runP cons FU defs (n + 1) 21 [.b b.d, .v (.int m)] = some (.v (.int r), b'.d) ∧ 0 ≤ r ∧ r < m ∧ b'.Ok (k + 1) := by
  rw [run_at n 21 _ qd21 rfl]
  exact take_run b m k h hn hm hm2
theorem some_at (n : Nat) (b : Bag) (xs : List PyData) (k : Nat) (h : b.Ok k) (hn : k ≤ 10 ^ 9) (hx : 0 < xs.length) (hx2 : xs.length < 10 ^ 60) :
    ∃ (v : PyData) (b' : Bag), runP cons FU defs (n + 2) 22 [.b b.d, .v (.list xs)] = some (.v v, b'.d) ∧ v ∈ xs ∧ b'.Ok (k + 1) := by
  obtain ⟨r, b', e, h0, h1, h2⟩ := take_at n b xs.length k h hn (by omega) (by simpa using hx2)
  obtain ⟨j, rfl⟩ := Int.eq_ofNat_of_zero_le h0
  have hj : j < xs.length := by omega
  refine ⟨xs[j], b', ?_, List.getElem_mem hj, h2⟩
  have e2 : atI xs ((j : Nat) : Int) = some xs[j] := atI_nat (List.getElem?_eq_getElem hj)
  rw [run_at (n + 1) 22 _ qd22 rfl, runFn_eq rfl]
  show (runB _ cons FU qd22.body [some (.b b.d), some (.v (.list xs))]).bind _ = _
  simp [qd22, qb22, e, e2]
theorem bag_at (n : Nat) (ns : List Int) (hn : ns.length ≤ 63) : runP cons FU defs (n + 1) 20 [.v (.list (ns.map .int))] = some (.o (bag0 ns).d, []) := by
  rw [run_at n 20 _ qd20 rfl]
  exact bag_run ns hn
theorem alike_at (n : Nat) {d : PyData} (h : Alk2 d) : runP cons FU defs (n + 1) 24 [.v d, .v d] = some (.v (.bool true), []) := by
  rw [run_at n 24 _ qd24 rfl]
  exact h.run
theorem alike_lt (n : Nat) {l : List PyData} (h : Alk2 (.list l)) : runP cons FU defs (n + 1) 24 [.b l, .v (.list l)] = some (.v (.bool true), l) := by
  rw [run_at n 24 _ qd24 rfl]
  exact h.runb
theorem alike_lt2 (n : Nat) {l : List PyData} (h : Alk2 (.list l)) : runP cons FU defs (n + 1) 24 [.v (.list l), .b l] = some (.v (.bool true), l) := by
  rw [run_at n 24 _ qd24 rfl]
  exact h.runb2
theorem some_int (n : Nat) (b : Bag) (xs : List Int) (k : Nat) (h : b.Ok k) (hn : k ≤ 10 ^ 9) (hx : 0 < xs.length) (hx2 : xs.length < 10 ^ 60) :
    ∃ (i : Int) (b' : Bag), runP cons FU defs (n + 2) 22 [.b b.d, .v (.list (xs.map .int))] = some (.v (.int i), b'.d) ∧ i ∈ xs ∧ b'.Ok (k + 1) := by
  obtain ⟨v, b', e, m, k'⟩ := some_at n b (xs.map .int) k h hn (by simpa using hx) (by simpa using hx2)
  obtain ⟨i, hi, rfl⟩ := List.mem_map.mp m
  exact ⟨i, b', e, hi, k'⟩

--part
theorem abs_eq (a : Int) : (if a < 0 then -a else a) = (a.natAbs : Int) := by
  split <;> omega
theorem fuel {k : Nat} {a : Int} (h : Bd k a) (hk : k ≤ 400) : a.natAbs < FU := h.mono (by omega)
theorem common_at (n : Nat) (a b : Int) {k : Nat} (h : Bd k b) (hk : k ≤ 400) : runP cons FU defs (n + 1) 0 [.v (.int a), .v (.int b)] = some (.v (.int (Int.gcd a b)), []) := by
  rw [at_def qd0 rfl rfl]
  have L := gcd_loop (c := fun en => runT (runP cons FU defs n) cons qt0_0 en) (body := fun en => (runB (runP cons FU defs n) cons FU qb0_0 en).bind fun f => some (wipF [] f)) (fun a b => [some (.v (.int a)), some (.v (.int b))])
    (fun a => by simp [qt0_0]) (fun a b hb => by
      have : b ≠ 0 := by omega
      simp [qt0_0, this]) (fun a b _ hb => by simp [qb0_0, modB hb]) b.natAbs a.natAbs FU (fuel h hk)
  simp [qd0, qb0, startE_eq, runS_wh, runS_retx, abs_eq, L]
  rfl
theorem reduced_at (n : Nat) (a b : Int) {k : Nat} (h : Bd k b) (hk : k ≤ 400) (hb : b ≠ 0) : runP cons FU defs (n + 2) 1 [.v (.int a), .v (.int b)] = some (.v (frD (redI a b)), []) := by
  rw [at_def qd1 rfl rfl]
  have c := common_at n a b h hk
  obtain ⟨e, x, y, he, h1, h2, h3, h4, h5, h6⟩ := redI_is (n := a) hb
  have be : Bd k e := by
    have := Bd.gcd (n := a) hb h
    unfold Bd at *
    omega
  have f1 (z : Int) := fdivK (a := z) he be (by omega)
  by_cases hp : b < 0
  · rw [if_neg (by omega)] at h6
    simp [qd1, qb1, startE_eq, c, hp, h6, f1, frD, redI]
    rw [if_neg (by omega)]
    exact ⟨rfl, rfl⟩
  · rw [if_pos (by omega)] at h6
    simp [qd1, qb1, startE_eq, c, hp, h6, f1, frD, redI]
    rw [if_pos (by omega)]
    exact ⟨rfl, rfl⟩
section
variable {p q : Int × Int} {k : Nat} (n : Nat)
theorem added_at (hp : Bf k p) (hq : Bf k q) (hk : k ≤ 190) (h0 : 0 < p.2) (h1 : 0 < q.2) : runP cons FU defs (n + 3) 2 [.v (frD p), .v (frD q)] = some (.v (frD (addI p q)), []) := by
  have r := reduced_at n (p.1 * q.2 + q.1 * p.2) (p.2 * q.2) (hp.b.mul hq.b) (by omega) (ne_mul h0 h1)
  have m1 := mulK hp.a hq.b (by omega)
  have m2 := mulK hq.a hp.b (by omega)
  have m3 := mulK hp.b hq.b (by omega)
  rw [at_def qd2 rfl rfl]
  simp [qd2, qb2, startE_eq, m1, m2, m3, r, addI]
theorem compared_at (hp : Bf k p) (hq : Bf k q) (hk : k ≤ 40000) : runP cons FU defs (n + 1) 6 [.v (frD p), .v (frD q)] = some (.v (.int (cmpF p q)), []) := by
  have m1 := mulK hp.a hq.b (by omega)
  have m2 := mulK hq.a hp.b (by omega)
  rw [at_def qd6 rfl rfl]
  simp [qd6, qb6, startE_eq, List.replicate_succ, m1, m2, cmpF]
  split <;> split <;> first | rfl | omega
end

section
variable {p q : Int × Int} {k : Nat} (n : Nat)
theorem lessened_at (hp : Bf k p) (hq : Bf k q) (hk : k ≤ 190) (h0 : 0 < p.2) (h1 : 0 < q.2) : runP cons FU defs (n + 3) 3 [.v (frD p), .v (frD q)] = some (.v (frD (subI p q)), []) := by
  have r := reduced_at n (p.1 * q.2 - q.1 * p.2) (p.2 * q.2) (hp.b.mul hq.b) (by omega) (ne_mul h0 h1)
  have m1 := mulK hp.a hq.b (by omega)
  have m2 := mulK hq.a hp.b (by omega)
  have m3 := mulK hp.b hq.b (by omega)
  rw [at_def qd3 rfl rfl]
  simp [qd3, qb3, startE_eq, m1, m2, m3, r, subI]
end

section
variable {p q : Int × Int} {k : Nat} (n : Nat)
theorem times_at (hp : Bf k p) (hq : Bf k q) (hk : k ≤ 190) (h0 : 0 < p.2) (h1 : 0 < q.2) : runP cons FU defs (n + 3) 4 [.v (frD p), .v (frD q)] = some (.v (frD (mulF p q)), []) := by
  have r := reduced_at n (p.1 * q.1) (p.2 * q.2) (hp.b.mul hq.b) (by omega) (ne_mul h0 h1)
  have m1 := mulK hp.a hq.a (by omega)
  have m3 := mulK hp.b hq.b (by omega)
  rw [at_def qd4 rfl rfl]
  simp [qd4, qb4, startE_eq, m1, m3, r, mulF]
end

section
variable {p q : Int × Int} {k : Nat} (n : Nat)
theorem over_at (hp : Bf k p) (hq : Bf k q) (hk : k ≤ 190) (h0 : 0 < p.2) (h1 : q.1 ≠ 0) : runP cons FU defs (n + 3) 5 [.v (frD p), .v (frD q)] = some (.v (frD (divF p q)), []) := by
  have r := reduced_at n (p.1 * q.2) (p.2 * q.1) (hp.b.mul hq.a) (by omega) (Int.mul_ne_zero (by omega) h1)
  have m1 := mulK hp.a hq.b (by omega)
  have m3 := mulK hp.b hq.a (by omega)
  rw [at_def qd5 rfl rfl]
  simp [qd5, qb5, startE_eq, m1, m3, r, divF]
end

theorem ratio_at (n : Nat) (a b : Int) {k : Nat} (h : Bd k b) (hk : k ≤ 400) (hb : b ≠ 0) : runP cons FU defs (n + 1) 25 [.v (.int a), .v (.int b)] = some (.v (frD (redI a b)), []) := by
  rw [at_def qd25 rfl rfl]
  have L := gcd_loop (c := fun en => runT (runP cons FU defs n) cons qt25_0 en) (body := fun en => (runB (runP cons FU defs n) cons FU qb25_0 en).bind fun f => some (wipF [] f)) (fun x y => [some (.v (.int a)), some (.v (.int b)), some (.v (.int x)), some (.v (.int y))])
    (fun x => by simp [qt25_0]) (fun x y hy => by simp [qt25_0, hy]) (fun x y _ hy => by simp [qb25_0, modB hy]) b.natAbs a.natAbs FU (fuel h hk)
  obtain ⟨e, x, y, he, h1, h2, h3, h4, h5, h6⟩ := redI_is (n := a) hb
  have be : Bd k e := by
    have := Bd.gcd (n := a) hb h
    unfold Bd at *
    omega
  have f1 (z : Int) := fdivK (a := z) he be (by omega)
  have gg : ((a.natAbs.gcd b.natAbs : Nat) : Int) = (Int.gcd a b : Int) := rfl
  by_cases hp : 0 < b
  · rw [if_pos hp] at h6
    simp [qd25, qb25, startE_eq, List.replicate_succ, runS_wh, abs_eq, L, gg, hp, h6, f1, frD, redI]
  · rw [if_neg hp] at h6
    simp [qd25, qb25, startE_eq, List.replicate_succ, runS_wh, abs_eq, L, gg, hp, h6, f1, frD, redI]
section
variable {p q : Int × Int} {k : Nat} (n : Nat)
theorem plus_at (hp : Bf k p) (hq : Bf k q) (hk : k ≤ 190) (h0 : 0 < p.2) (h1 : 0 < q.2) : runP cons FU defs (n + 2) 26 [.v (frD p), .v (frD q)] = some (.v (frD (addI p q)), []) := by
  have r := ratio_at n (p.1 * q.2 + q.1 * p.2) (p.2 * q.2) (hp.b.mul hq.b) (by omega) (ne_mul h0 h1)
  have m1 := mulK hp.a hq.b (by omega)
  have m2 := mulK hq.a hp.b (by omega)
  have m3 := mulK hp.b hq.b (by omega)
  rw [at_def qd26 rfl rfl]
  simp [qd26, qb26, startE_eq, m1, m2, m3, r, addI]
theorem by_at (hp : Bf k p) (hq : Bf k q) (hk : k ≤ 190) (h0 : 0 < p.2) (h1 : 0 < q.2) : runP cons FU defs (n + 2) 28 [.v (frD p), .v (frD q)] = some (.v (frD (mulF p q)), []) := by
  have r := ratio_at n (p.1 * q.1) (p.2 * q.2) (hp.b.mul hq.b) (by omega) (ne_mul h0 h1)
  have m1 := mulK hp.a hq.a (by omega)
  have m3 := mulK hp.b hq.b (by omega)
  rw [at_def qd28 rfl rfl]
  simp [qd28, qb28, startE_eq, m1, m3, r, mulF]
theorem sign_at (hp : Bf k p) (hq : Bf k q) (hk : k ≤ 190) : runP cons FU defs (n + 1) 29 [.v (frD p), .v (frD q)] = some (.v (.int (p.1 * q.2 - q.1 * p.2)), []) := by
  have m1 := mulK hp.a hq.b (by omega)
  have m2 := mulK hq.a hp.b (by omega)
  rw [at_def qd29 rfl rfl]
  simp [qd29, qb29, startE_eq, m1, m2]
end

--part
/-! ### the least convex part round some points: the way by halves, in plain integers -/
abbrev Pt := Int × Int
def cross (a b c : Pt) : Int := (b.1 - a.1) * (c.2 - a.2) - (b.2 - a.2) * (c.1 - a.1)
def kap (α β : Int) (p : Pt) : Int := α * p.1 + β * p.2
theorem pluck (α β : Int) (a b c p : Pt) : (kap α β b - kap α β a) * cross a c p = (kap α β c - kap α β a) * cross a b p - (kap α β p - kap α β a) * cross a b c := by
  unfold cross kap
  grind
theorem pluck2 (α β : Int) (a b c d : Pt) : (kap α β c - kap α β b) * cross a b d = (kap α β d - kap α β b) * cross a b c + (kap α β b - kap α β a) * cross b c d := by
  unfold cross kap
  grind
theorem pluck3 (α β : Int) (a b c d : Pt) : (kap α β c - kap α β b) * cross a c d = (kap α β c - kap α β a) * cross b c d + (kap α β d - kap α β c) * cross a b c := by
  unfold cross kap
  grind
theorem pluck4 (α β : Int) (a b c p : Pt) : (kap α β b - kap α β a) * cross b c p = (kap α β c - kap α β b) * cross a b p + (kap α β b - kap α β p) * cross a b c := by
  unfold cross kap
  grind
theorem pluck5 (α β : Int) (a b m c M : Pt) : cross a b c * (kap α β M - kap α β m) = cross a b m * (kap α β M - kap α β c) + cross a b M * (kap α β c - kap α β m) + (kap α β b - kap α β a) * cross M c m := by
  unfold cross kap
  grind
theorem cross_rot (a b c : Pt) : cross b c a = cross a b c := by
  unfold cross
  grind
theorem cross_swap (a b c : Pt) : cross b a c = -cross a b c := by
  unfold cross
  grind
theorem cross_12 (a b : Pt) : cross a b b = 0 ∧ cross a b a = 0 := by
  unfold cross
  constructor <;> grind
theorem pos_of_mul {k x : Int} (hk : 0 < k) (h : 0 < k * x) : 0 < x := by
  by_cases z : 0 < x
  · exact z
  · have : k * x ≤ 0 := Int.mul_nonpos_of_nonneg_of_nonpos (by omega) (by omega)
    omega
theorem nn_of_mul {k x : Int} (hk : 0 < k) (h : 0 ≤ k * x) : 0 ≤ x := by
  by_cases z : 0 ≤ x
  · exact z
  · have : k * x < 0 := Int.mul_neg_of_pos_of_neg hk (by omega)
    omega
section
variable {α β : Int}
theorem turn1 {a b c d : Pt} (h1 : kap α β a < kap α β b) (h2 : kap α β b < kap α β c) (h3 : kap α β c < kap α β d) (x : 0 < cross a b c) (y : 0 < cross b c d) : 0 < cross a b d ∧ 0 < cross a c d := by
  have i1 := pluck2 α β a b c d
  have i2 := pluck3 α β a b c d
  constructor
  · refine pos_of_mul (k := kap α β c - kap α β b) (by omega) ?_
    rw [i1]
    have := Int.mul_pos (show 0 < kap α β d - kap α β b by omega) x
    have := Int.mul_pos (show 0 < kap α β b - kap α β a by omega) y
    omega
  · refine pos_of_mul (k := kap α β c - kap α β b) (by omega) ?_
    rw [i2]
    have := Int.mul_pos (show 0 < kap α β c - kap α β a by omega) y
    have := Int.mul_pos (show 0 < kap α β d - kap α β c by omega) x
    omega
theorem turn4 {a b c p : Pt} (h1 : kap α β a < kap α β b) (h2 : kap α β b < kap α β c) (h3 : kap α β p ≤ kap α β b) (x : 0 ≤ cross a b p) (y : 0 < cross a b c) : 0 ≤ cross b c p := by
  have i := pluck4 α β a b c p
  refine nn_of_mul (k := kap α β b - kap α β a) (by omega) ?_
  rw [i]
  have := Int.mul_nonneg (show 0 ≤ kap α β c - kap α β b by omega) x
  have := Int.mul_nonneg (show 0 ≤ kap α β b - kap α β p by omega) (show 0 ≤ cross a b c by omega)
  omega
theorem turn2 {a b c p : Pt} (h1 : kap α β a < kap α β b) (h2 : kap α β b < kap α β c) (h3 : kap α β p ≤ kap α β c) (x : 0 ≤ cross b c p) (y : cross a b c ≤ 0) : 0 ≤ cross a c p := by
  have i := pluck3 α β a b c p
  refine nn_of_mul (k := kap α β c - kap α β b) (by omega) ?_
  rw [i]
  have := Int.mul_nonneg (show 0 ≤ kap α β c - kap α β a by omega) x
  have := Int.mul_nonneg_of_nonpos_of_nonpos (show kap α β p - kap α β c ≤ 0 by omega) y
  omega
theorem turn3 {a b c p : Pt} (h1 : kap α β a < kap α β b) (h2 : kap α β b < kap α β c) (h3 : kap α β a ≤ kap α β p) (x : 0 ≤ cross a b p) (y : cross a b c ≤ 0) : 0 ≤ cross a c p := by
  have i := pluck α β a b c p
  refine nn_of_mul (k := kap α β b - kap α β a) (by omega) ?_
  rw [i]
  have := Int.mul_nonneg (show 0 ≤ kap α β c - kap α β a by omega) x
  have := Int.mul_nonpos_of_nonneg_of_nonpos (show 0 ≤ kap α β p - kap α β a by omega) y
  omega
/-- the half way round: the newest point first -/
def pops : List Pt → Pt → List Pt
  | b :: a :: r, c => if 0 < cross a b c then b :: a :: r else pops (a :: r) c
  | s, _ => s
def push (s : List Pt) (c : Pt) : List Pt := c :: pops s c
def half (l : List Pt) : List Pt := l.foldl push []
/-- its edges, the newest first -/
def eds : List Pt → List (Pt × Pt)
  | b :: a :: r => (a, b) :: eds (a :: r)
  | _ => []
/-- each three of it turn to the left -/
def Tri : List Pt → Prop
  | [] => True
  | c :: s => s.Pairwise (fun b a => 0 < cross a b c) ∧ Tri s
/-- descending -/
def Dec (α β : Int) (s : List Pt) : Prop := s.Pairwise fun b a => kap α β a < kap α β b
structure Chn (α β : Int) (s seen : List Pt) : Prop where
  tri : Tri s
  dec : Dec α β s
  sub : ∀ p ∈ s, p ∈ seen
  all : ∀ e ∈ eds s, ∀ p ∈ seen, 0 ≤ cross e.1 e.2 p
  last : ∀ x ∈ s.getLast?, ∀ p ∈ seen, p = x ∨ kap α β x < kap α β p
theorem pops_suffix : ∀ (s : List Pt) (c : Pt), pops s c <:+ s
  | [], _ => List.suffix_refl _
  | [_], _ => List.suffix_refl _
  | b :: a :: r, c => by
    unfold pops
    split
    · exact List.suffix_refl _
    · exact (pops_suffix (a :: r) c).trans (List.suffix_cons _ _)
theorem Tri.suffix : ∀ {s t : List Pt}, t <:+ s → Tri s → Tri t
  | [], t, h, _ => by
    rw [List.suffix_nil] at h
    rw [h]
    trivial
  | c :: s, t, h, ht => by
    rcases List.suffix_cons_iff.mp h with rfl | h
    · exact ht
    · exact Tri.suffix h ht.2
theorem eds_suffix : ∀ {s t : List Pt}, t <:+ s → ∀ e ∈ eds t, e ∈ eds s
  | [], t, h, e, he => by
    rw [List.suffix_nil] at h
    rw [h] at he
    exact he
  | c :: s, t, h, e, he => by
    rcases List.suffix_cons_iff.mp h with rfl | h
    · exact he
    · have := eds_suffix h e he
      cases s with
      | nil => cases this
      | cons a r => exact List.mem_cons_of_mem _ this
theorem last_suffix : ∀ {s t : List Pt}, t <:+ s → t ≠ [] → t.getLast? = s.getLast?
  | s, t, ⟨u, h⟩, ht => by
    rw [← h]
    cases t with
    | nil => exact absurd rfl ht
    | cons x r =>
      rw [List.getLast?_append, List.getLast?_cons, Option.some_or]
theorem pops_ne : ∀ (s : List Pt) (c : Pt), s ≠ [] → pops s c ≠ []
  | [], _, h => absurd rfl h
  | [_], _, _ => by
    unfold pops
    simp
  | b :: a :: r, c, _ => by
    unfold pops
    split
    · simp
    · exact pops_ne (a :: r) c (by simp)
/-- what the popping leaves -/
theorem pops_all {seen : List Pt} {c : Pt} (hc : ∀ p ∈ seen, kap α β p < kap α β c) : ∀ (s : List Pt), s ≠ [] → Dec α β s → (∀ p ∈ s, p ∈ seen) → (∀ e ∈ eds s, ∀ p ∈ seen, 0 ≤ cross e.1 e.2 p) → (∀ x ∈ s.getLast?, ∀ p ∈ seen, p = x ∨ kap α β x < kap α β p) →
    (∀ t ∈ s.head?, ∀ p ∈ seen, kap α β t ≤ kap α β p → 0 ≤ cross t c p) →
    ∃ v r, pops s c = v :: r ∧ (∀ p ∈ seen, 0 ≤ cross v c p) ∧ ∀ u ∈ r.head?, 0 < cross u v c
  | [], h, _, _, _, _, _ => absurd rfl h
  | [t], _, _, _, _, hl, ht => by
    refine ⟨t, [], rfl, fun p hp => ht t rfl p hp ?_, fun u hu => by cases hu⟩
    rcases hl t rfl p hp with rfl | h
    · exact Int.le_refl _
    · omega
  | b :: a :: r, _, hd, hs, he, hl, ht => by
    have hab : kap α β a < kap α β b := (List.pairwise_cons.mp hd).1 a (by simp)
    have hbc := hc b (hs b (by simp))
    unfold pops
    by_cases z : 0 < cross a b c
    · rw [if_pos z]
      refine ⟨b, a :: r, rfl, fun p hp => ?_, fun u hu => ?_⟩
      · by_cases y : kap α β b ≤ kap α β p
        · exact ht b rfl p hp y
        · exact turn4 hab hbc (by omega) (he (a, b) (by simp [eds]) p hp) z
      · cases hu
        exact z
    · rw [if_neg z]
      refine pops_all hc (a :: r) (by simp) (List.pairwise_cons.mp hd).2 (fun p hp => hs p (List.mem_cons_of_mem _ hp)) (fun e h => he e (by simp only [eds]; exact List.mem_cons_of_mem _ h)) (fun x hx => hl x (by simpa using hx)) ?_
      intro t ht' p hp hap
      cases ht'
      by_cases y : kap α β b ≤ kap α β p
      · exact turn2 hab hbc (by have := hc p hp; omega) (ht b rfl p hp y) (by omega)
      · exact turn3 hab hbc hap (he (a, b) (by simp [eds]) p hp) (by omega)
/-- a newer point beyond the last turn -/
theorem tri_push {c : Pt} : ∀ (s : List Pt), Tri s → Dec α β s → (∀ p ∈ s, kap α β p < kap α β c) → (∀ v r, s = v :: r → ∀ u ∈ r.head?, 0 < cross u v c) → Tri (c :: s)
  | [], _, _, _, _ => ⟨List.Pairwise.nil, trivial⟩
  | [v], _, _, _, _ => ⟨List.pairwise_singleton _ _, List.Pairwise.nil, trivial⟩
  | v :: u :: r, ht, hd, hc, h => by
    have uv : kap α β u < kap α β v := (List.pairwise_cons.mp hd).1 u (by simp)
    have hv := hc v (by simp)
    have huvc := h v (u :: r) rfl u rfl
    have hd2 := (List.pairwise_cons.mp hd).2
    have tv := List.pairwise_cons.mp ht.1
    -- any a below u
    have av : ∀ a ∈ u :: r, 0 < cross a v c := fun a ha => by
      rcases List.mem_cons.mp ha with rfl | ha
      · exact huvc
      · have au : kap α β a < kap α β u := (List.pairwise_cons.mp hd2).1 a ha
        exact (turn1 au uv hv (tv.1 a ha) huvc).2
    have uc : ∀ x y, x = u → y ∈ r.head? → 0 < cross y x c := fun x y hx hy => by
      subst hx
      have hy' : y ∈ r := List.mem_of_mem_head? hy
      have yu : kap α β y < kap α β x := (List.pairwise_cons.mp hd2).1 y hy'
      exact (turn1 yu uv hv (tv.1 y hy') huvc).1
    have ih := tri_push (c := c) (u :: r) ht.2 hd2 (fun p hp => hc p (List.mem_cons_of_mem _ hp)) (fun v' r' e u' hu' => by
      cases e
      exact uc _ u' rfl hu')
    exact ⟨List.pairwise_cons.mpr ⟨av, ih.1⟩, ht⟩
theorem chn_push {s seen : List Pt} {c : Pt} (h : Chn α β s seen) (hne : s ≠ []) (hc : ∀ p ∈ seen, kap α β p < kap α β c) (ht : ∀ t ∈ s.head?, ∀ p ∈ seen, p = t ∨ kap α β p < kap α β t) : Chn α β (push s c) (seen ++ [c]) := by
  have sf := pops_suffix s c
  obtain ⟨v, r, e, h1, h2⟩ := pops_all hc s hne h.dec h.sub h.all h.last (fun t ht' p hp hk => by
    rcases ht t ht' p hp with rfl | y
    · rw [(cross_12 _ _).2]
      exact Int.le_refl _
    · omega)
  have sub : ∀ p ∈ pops s c, p ∈ seen := fun p hp => h.sub p (sf.subset hp)
  have dec : Dec α β (pops s c) := List.Pairwise.sublist sf.sublist h.dec
  have tri : Tri (c :: pops s c) := tri_push (α := α) (β := β) _ (h.tri.suffix sf) dec (fun p hp => hc p (sub p hp)) (fun v' r' e' u hu => by
    rw [e] at e'
    cases e'
    exact h2 u hu)
  refine ⟨tri, List.pairwise_cons.mpr ⟨fun p hp => hc p (sub p hp), dec⟩, ?_, ?_, ?_⟩
  · intro p hp
    rcases List.mem_cons.mp hp with rfl | hp
    · simp
    · exact List.mem_append_left _ (sub p hp)
  · intro ed hed p hp
    unfold push at hed
    rw [e] at hed
    simp only [eds] at hed
    rcases List.mem_append.mp hp with hp | hp
    · rcases List.mem_cons.mp hed with rfl | hed
      · exact h1 p hp
      · exact h.all ed (eds_suffix (e ▸ sf) ed hed) p hp
    · rw [List.mem_singleton.mp hp]
      rcases List.mem_cons.mp hed with rfl | hed
      · rw [(cross_12 _ _).1]
        exact Int.le_refl _
      · rw [e] at tri
        have pw := tri.1
        -- adjacent ones are a pair
        have adj : ∀ (s : List Pt), s.Pairwise (fun b a => 0 < cross a b c) → ∀ ed ∈ eds s, 0 < cross ed.1 ed.2 c := by
          intro s
          induction s with
          | nil => intro _ ed h; cases h
          | cons b s ih =>
            intro hp ed h
            cases s with
            | nil => cases h
            | cons a r =>
              simp only [eds] at h
              rcases List.mem_cons.mp h with rfl | h
              · exact (List.pairwise_cons.mp hp).1 a (by simp)
              · exact ih (List.pairwise_cons.mp hp).2 ed h
        exact Int.le_of_lt (adj _ pw ed hed)
  · intro x hx p hp
    have lx : x ∈ s.getLast? := by
      unfold push at hx
      rw [← last_suffix sf (pops_ne s c hne)]
      have := pops_ne s c hne
      cases hh : pops s c with
      | nil => exact absurd hh this
      | cons y z =>
        rw [hh] at hx
        simpa using hx
    rcases List.mem_append.mp hp with hp | hp
    · exact h.last x lx p hp
    · rw [List.mem_singleton.mp hp]
      refine .inr (hc x (h.sub x (List.mem_of_mem_getLast? lx)))
/-- of an ascending line -/
theorem half_chn : ∀ (l s seen : List Pt), s ≠ [] → Chn α β s seen → (∀ t ∈ s.head?, ∀ p ∈ seen, p = t ∨ kap α β p < kap α β t) → (seen ++ l).Pairwise (fun a b => kap α β a < kap α β b) → Chn α β (l.foldl push s) (seen ++ l) ∧ (∀ t ∈ (l.foldl push s).head?, ∀ p ∈ seen ++ l, p = t ∨ kap α β p < kap α β t)
  | [], s, seen, _, h, ht, _ => by
    rw [List.append_nil]
    exact ⟨h, ht⟩
  | c :: l, s, seen, hne, h, ht, hp => by
    have hc : ∀ p ∈ seen, kap α β p < kap α β c := fun p hp' => (List.pairwise_append.mp hp).2.2 p hp' c (by simp)
    have := half_chn l (push s c) (seen ++ [c]) (by unfold push; simp) (chn_push h hne hc ht) (fun t ht' p hp' => by
      cases ht'
      rcases List.mem_append.mp hp' with y | y
      · exact .inr (hc p y)
      · exact .inl (List.mem_singleton.mp y)) (by rw [List.append_assoc]; exact hp)
    rw [List.append_assoc] at this
    exact this
theorem half_ok {c : Pt} {l : List Pt} (hp : (c :: l).Pairwise (fun a b => kap α β a < kap α β b)) : Chn α β (half (c :: l)) (c :: l) ∧ (∀ t ∈ (half (c :: l)).head?, ∀ p ∈ c :: l, p = t ∨ kap α β p < kap α β t) := by
  have := half_chn (α := α) (β := β) l [c] [c] (by simp) ⟨⟨List.Pairwise.nil, trivial⟩, List.pairwise_singleton _ _, fun p hp => hp, fun e he => (by cases he), fun x hx p hp => (by
    cases hx
    exact .inl (List.mem_singleton.mp hp))⟩ (fun t ht p hp => by
    cases ht
    exact .inl (List.mem_singleton.mp hp)) hp
  exact this
/-- three of it in a row -/
theorem tri_edge : ∀ {s : List Pt}, Tri s → ∀ e ∈ eds s, ∀ c ∈ s, c = e.1 ∨ c = e.2 ∨ 0 < cross e.1 e.2 c
  | [], _, e, he, _, _ => by cases he
  | [_], _, e, he, _, _ => by cases he
  | d :: v :: s, ht, e, he, c, hc => by
    simp only [eds] at he
    have pw := List.pairwise_cons.mp ht.1
    rcases List.mem_cons.mp he with rfl | he2
    · rcases List.mem_cons.mp hc with rfl | hc
      · exact .inr (.inl rfl)
      · rcases List.mem_cons.mp hc with rfl | hc
        · exact .inl rfl
        · refine .inr (.inr ?_)
          have := pw.1 c hc
          rw [← cross_rot] at this
          exact this
    · rcases List.mem_cons.mp hc with rfl | hc
      · refine .inr (.inr ?_)
        have adj : ∀ (s : List Pt), s.Pairwise (fun b a => 0 < cross a b c) → ∀ ed ∈ eds s, 0 < cross ed.1 ed.2 c := by
          intro s
          induction s with
          | nil => intro _ ed h; cases h
          | cons b s ih =>
            intro hp ed h
            cases s with
            | nil => cases h
            | cons a r =>
              simp only [eds] at h
              rcases List.mem_cons.mp h with rfl | h
              · exact (List.pairwise_cons.mp hp).1 a (by simp)
              · exact ih (List.pairwise_cons.mp hp).2 ed h
        exact adj _ ht.1 e he2
      · exact tri_edge ht.2 e he2 c hc
/-- one of it, neither the first nor the last -/
theorem tri_mid : ∀ {s : List Pt}, Tri s → ∀ M ∈ s.head?, ∀ m ∈ s.getLast?, ∀ c ∈ s, c = M ∨ c = m ∨ 0 < cross m c M
  | [], _, M, hM, _, _, _, _ => by cases hM
  | M :: s, ht, _, hM, m, hm, c, hc => by
    cases hM
    rcases List.mem_cons.mp hc with rfl | hc
    · exact .inl rfl
    · cases hs : s with
      | nil =>
        rw [hs] at hc
        cases hc
      | cons x y =>
        have hm' : m ∈ s.getLast? := by
          rw [hs] at hm ⊢
          simpa using hm
        by_cases z : c = m
        · exact .inr (.inl z)
        · refine .inr (.inr ?_)
          obtain ⟨i, hi, rfl⟩ := List.getElem_of_mem hc
          have lm : s[s.length - 1]? = some m := by
            rw [← List.getLast?_eq_getElem?]
            exact hm'
          have : i < s.length - 1 := by
            by_cases y : i < s.length - 1
            · exact y
            · exfalso
              apply z
              have : i = s.length - 1 := by omega
              subst this
              rw [List.getElem?_eq_getElem hi] at lm
              exact Option.some.inj lm
          have h2 : s.length - 1 < s.length := by omega
          rw [List.getElem?_eq_getElem h2] at lm
          have := List.pairwise_iff_getElem.mp ht.1 i (s.length - 1) hi h2 this
          rw [Option.some.inj lm] at this
          exact this
end

--part
/-! ### polygons: both halves -/
def fed : List Pt → List (Pt × Pt)
  | a :: b :: r => (a, b) :: fed (b :: r)
  | _ => []
theorem fed_app (a : Pt) (t : List Pt) : ∀ A : List Pt, fed (A ++ a :: t) = fed (A ++ [a]) ++ fed (a :: t)
  | [] => rfl
  | [x] => rfl
  | x :: y :: r => by
    have ih := fed_app a t (y :: r)
    simp only [List.cons_append, fed] at ih ⊢
    rw [ih]
theorem fed_rev (e : Pt × Pt) : ∀ s : List Pt, e ∈ fed s.reverse ↔ e ∈ eds s
  | [] => by simp [fed, eds]
  | [a] => by simp [fed, eds]
  | b :: a :: r => by
    have ih := fed_rev e (a :: r)
    have e1 : (b :: a :: r).reverse = r.reverse ++ a :: [b] := by simp
    have e2 : (a :: r).reverse = r.reverse ++ [a] := by simp
    rw [e1, fed_app, ← e2, List.mem_append, ih]
    simp only [eds, fed, List.mem_cons, List.not_mem_nil, or_false]
    exact Or.comm
theorem fed_map (z : Pt) : ∀ L : List Pt, fed L = (List.range (L.length - 1)).map fun k => (L.getD k z, L.getD (k + 1) z)
  | [] => rfl
  | [_] => rfl
  | a :: b :: r => by
    have ih := fed_map z (b :: r)
    simp only [fed, ih, List.length_cons, Nat.add_sub_cancel]
    rw [List.range_succ_eq_map, List.map_cons, List.map_map]
    rfl
def lexB (a b : Pt) : Prop := a.1 < b.1 ∨ a.1 = b.1 ∧ a.2 < b.2
theorem lex_trans {a b c : Pt} (h : lexB a b) (h' : lexB b c) : lexB a c := by
  unfold lexB at *
  omega
theorem lex_ne {a b : Pt} (h : lexB a b) : a ≠ b := fun e => by
  subst e
  unfold lexB at h
  omega
theorem lex_tri (a b : Pt) : a = b ∨ lexB a b ∨ lexB b a := by
  unfold lexB
  by_cases e : a = b
  · exact .inl e
  · have : a.1 ≠ b.1 ∨ a.2 ≠ b.2 := by
      by_cases x : a.1 = b.1
      · by_cases y : a.2 = b.2
        · exact absurd (Prod.ext x y) e
        · exact .inr y
      · exact .inl x
    omega
theorem lex_kap {N B : Int} (hN : 2 * B < N) {a b : Pt} (ha : -B ≤ a.2 ∧ a.2 ≤ B) (hb : -B ≤ b.2 ∧ b.2 ≤ B) (h : lexB a b) : kap N 1 a < kap N 1 b := by
  unfold kap
  rcases h with h | ⟨h, h2⟩
  · have : N * (a.1 + 1) ≤ N * b.1 := Int.mul_le_mul_of_nonneg_left (by omega) (by omega)
    rw [Int.mul_add] at this
    omega
  · rw [h]
    omega
theorem bound_ex : ∀ l : List Pt, ∃ B : Int, 0 ≤ B ∧ ∀ p ∈ l, -B ≤ p.2 ∧ p.2 ≤ B
  | [] => ⟨0, by decide, fun p hp => by cases hp⟩
  | p :: r => by
    obtain ⟨B, h0, h⟩ := bound_ex r
    refine ⟨B + p.2.natAbs, by omega, fun q hq => ?_⟩
    rcases List.mem_cons.mp hq with rfl | hq
    · omega
    · have := h q hq
      omega
theorem kap_neg (N : Int) (p : Pt) : kap (-N) (-1) p = -kap N 1 p := by
  unfold kap
  grind
/-- a functional that goes as the order goes -/
theorem good_ex (l : List Pt) : ∃ N : Int, ∀ a ∈ l, ∀ b ∈ l, lexB a b → kap N 1 a < kap N 1 b := by
  obtain ⟨B, h0, h⟩ := bound_ex l
  exact ⟨2 * B + 1, fun a ha b hb hab => lex_kap (by omega) (h a ha) (h b hb) hab⟩
theorem half_head (l : List Pt) (x : Pt) : (half (l ++ [x])).head? = some x := by
  unfold half
  rw [List.foldl_append]
  rfl
theorem half_last (m : Pt) (l : List Pt) : (half (m :: l)).getLast? = some m := by
  have key : ∀ (l s : List Pt), s ≠ [] → (l.foldl push s).getLast? = s.getLast? ∧ l.foldl push s ≠ [] := by
    intro l
    induction l with
    | nil => intro s h; exact ⟨rfl, h⟩
    | cons c r ih =>
      intro s h
      obtain ⟨h1, h2⟩ := ih (push s c) (by unfold push; simp)
      refine ⟨?_, h2⟩
      rw [List.foldl_cons, h1]
      have n := pops_ne s c h
      have := last_suffix (pops_suffix s c) n
      rw [← this]
      unfold push
      cases hh : pops s c with
      | nil => exact absurd hh n
      | cons y z => simp
  exact (key l [m] (by simp)).1
def polyL (line : List Pt) : List Pt := if line.length < 3 then line else (half line).reverse.dropLast ++ (half line.reverse).reverse.dropLast
theorem polyL_is {line : List Pt} (h : line.length ≠ 1) (hs : line.Pairwise lexB) : polyL line = (half line).reverse.dropLast ++ (half line.reverse).reverse.dropLast := by
  unfold polyL
  split
  · rename_i h3
    match line, h, h3 with
    | [], _, _ => rfl
    | [a, b], _, _ => rfl
  · rfl
/-- both halves of a line: from the least point m to the greatest one -/
structure Two (line : List Pt) (m M : Pt) (s1 s2 : List Pt) : Prop where
  e1 : half line = M :: s1
  l1 : (M :: s1).getLast? = some m
  e2 : half line.reverse = m :: s2
  l2 : (m :: s2).getLast? = some M
  lo : ∀ p ∈ line, p = m ∨ lexB m p
  hi : ∀ p ∈ line, p = M ∨ lexB p M
  mm : m ∈ line
  mM : M ∈ line
  ne : lexB m M
  c1 : ∀ N, (∀ a ∈ line, ∀ b ∈ line, lexB a b → kap N 1 a < kap N 1 b) → Chn N 1 (M :: s1) line
  c2 : ∀ N, (∀ a ∈ line, ∀ b ∈ line, lexB a b → kap N 1 a < kap N 1 b) → Chn (-N) (-1) (m :: s2) line
theorem two_ex {line : List Pt} (hs : line.Pairwise lexB) (h2 : 2 ≤ line.length) : ∃ m M s1 s2, Two line m M s1 s2 := by
  obtain ⟨m, l, rfl⟩ : ∃ m l, line = m :: l := by
    cases line with
    | nil => simp at h2
    | cons m l => exact ⟨m, l, rfl⟩
  obtain ⟨l0, M, e⟩ : ∃ l0 M, m :: l = l0 ++ [M] := ⟨(m :: l).dropLast, (m :: l).getLast (by simp), (List.dropLast_concat_getLast (by simp)).symm⟩
  have hl0 : l0 ≠ [] := fun z => by
    rw [z] at e
    have := congrArg List.length e
    simp only [List.length_cons, List.nil_append, List.length_nil] at this h2
    omega
  have hh := half_head l0 M
  rw [← e] at hh
  obtain ⟨s1, e1⟩ : ∃ s1, half (m :: l) = M :: s1 := by
    cases hf : half (m :: l) with
    | nil => rw [hf] at hh; cases hh
    | cons x y =>
      rw [hf] at hh
      cases hh
      exact ⟨y, rfl⟩
  have er : (m :: l).reverse = l.reverse ++ [m] := by simp
  have hh2 := half_head l.reverse m
  rw [← er] at hh2
  obtain ⟨s2, e2⟩ : ∃ s2, half (m :: l).reverse = m :: s2 := by
    cases hf : half (m :: l).reverse with
    | nil => rw [hf] at hh2; cases hh2
    | cons x y =>
      rw [hf] at hh2
      cases hh2
      exact ⟨y, rfl⟩
  have er2 : (m :: l).reverse = M :: l0.reverse := by rw [e]; simp
  have mM : M ∈ m :: l := by rw [e]; simp
  have lo : ∀ p ∈ m :: l, p = m ∨ lexB m p := fun p hp => by
    rcases List.mem_cons.mp hp with rfl | hp
    · exact .inl rfl
    · exact .inr ((List.pairwise_cons.mp hs).1 p hp)
  have hi : ∀ p ∈ m :: l, p = M ∨ lexB p M := fun p hp => by
    rw [e] at hp hs
    rcases List.mem_append.mp hp with hp | hp
    · exact .inr ((List.pairwise_append.mp hs).2.2 p hp M (by simp))
    · exact .inl (List.mem_singleton.mp hp)
  have ne : lexB m M := by
    cases l0 with
    | nil => exact absurd rfl hl0
    | cons x r =>
      have : m = x := by
        have := congrArg List.head? e
        simpa using this
      subst this
      have hs' := hs
      rw [e] at hs'
      exact (List.pairwise_append.mp hs').2.2 m (by simp) M (by simp)
  refine ⟨m, M, s1, s2, e1, ?_, e2, ?_, lo, hi, by simp, mM, ne, fun N hN => ?_, fun N hN => ?_⟩
  · rw [← e1]
    exact half_last m l
  · rw [← e2, er2]
    exact half_last M l0.reverse
  · have pw : (m :: l).Pairwise fun a b => kap N 1 a < kap N 1 b := hs.imp_of_mem fun ha hb hab => hN _ ha _ hb hab
    have := (half_ok pw).1
    rw [e1] at this
    exact this
  · have pw : (m :: l).reverse.Pairwise fun a b => kap (-N) (-1) a < kap (-N) (-1) b := by
      rw [List.pairwise_reverse]
      refine hs.imp_of_mem fun ha hb hab => ?_
      have := hN _ ha _ hb hab
      rw [kap_neg, kap_neg]
      omega
    rw [er2] at pw
    have h := (half_ok pw).1
    rw [← er2, e2] at h
    exact ⟨h.tri, h.dec, fun p hp => List.mem_reverse.mp (h.sub p hp), fun e he p hp => h.all e he p (List.mem_reverse.mpr hp), fun x hx p hp => h.last x hx p (List.mem_reverse.mpr hp)⟩
namespace Two
variable {line : List Pt} {m M : Pt} {s1 s2 : List Pt}
theorem poly (T : Two line m M s1 s2) (hs : line.Pairwise lexB) (h2 : 2 ≤ line.length) : polyL line = s1.reverse ++ s2.reverse := by
  rw [polyL_is (by omega) hs, T.e1, T.e2, List.reverse_cons, List.reverse_cons, List.dropLast_concat, List.dropLast_concat]
theorem heads (T : Two line m M s1 s2) : s1.getLast? = some m ∧ s2.getLast? = some M := by
  have a := T.l1
  have b := T.l2
  have n := lex_ne T.ne
  constructor
  · cases h : s1 with
    | nil =>
      rw [h] at a
      simp at a
      exact absurd a.symm n
    | cons x y =>
      rw [h] at a
      simpa using a
  · cases h : s2 with
    | nil =>
      rw [h] at b
      simp at b
      exact absurd b n
    | cons x y =>
      rw [h] at b
      simpa using b
/-- all edges, round -/
theorem edges (T : Two line m M s1 s2) (e : Pt × Pt) : e ∈ fed (s1.reverse ++ s2.reverse ++ [m]) ↔ e ∈ eds (M :: s1) ∨ e ∈ eds (m :: s2) := by
  obtain ⟨h1, h2⟩ := T.heads
  have e2 : s2.reverse ++ [m] = (m :: s2).reverse := by simp
  obtain ⟨t, ht⟩ : ∃ t, (m :: s2).reverse = M :: t := by
    have : (m :: s2).reverse.head? = some M := by rw [List.head?_reverse]; exact T.l2
    cases h : (m :: s2).reverse with
    | nil => rw [h] at this; cases this
    | cons x y =>
      rw [h] at this
      cases this
      exact ⟨y, rfl⟩
  rw [List.append_assoc, e2, ht, fed_app, List.mem_append, ← ht, fed_rev]
  have e1 : s1.reverse ++ [M] = (M :: s1).reverse := by simp
  rw [e1, fed_rev]
theorem all (T : Two line m M s1 s2) : ∀ e ∈ fed (s1.reverse ++ s2.reverse ++ [m]), ∀ p ∈ line, 0 ≤ cross e.1 e.2 p := fun e he p hp => by
  obtain ⟨N, hN⟩ := good_ex line
  rcases (T.edges e).mp he with h | h
  · exact (T.c1 N hN).all e h p hp
  · exact (T.c2 N hN).all e h p hp
theorem sub (T : Two line m M s1 s2) : ∀ p ∈ s1.reverse ++ s2.reverse, p ∈ line := fun p hp => by
  obtain ⟨N, hN⟩ := good_ex line
  rcases List.mem_append.mp hp with hp | hp
  · exact (T.c1 N hN).sub p (List.mem_cons_of_mem _ (List.mem_reverse.mp hp))
  · exact (T.c2 N hN).sub p (List.mem_cons_of_mem _ (List.mem_reverse.mp hp))
theorem eds_mem : ∀ (s : List Pt), ∀ e ∈ eds s, e.1 ∈ s ∧ e.2 ∈ s
  | [], e, h => by cases h
  | [_], e, h => by cases h
  | b :: a :: r, e, h => by
    simp only [eds] at h
    rcases List.mem_cons.mp h with rfl | h
    · simp
    · have := eds_mem (a :: r) e h
      exact ⟨List.mem_cons_of_mem _ this.1, List.mem_cons_of_mem _ this.2⟩
theorem eds_dec {α β : Int} : ∀ (s : List Pt), Dec α β s → ∀ e ∈ eds s, kap α β e.1 < kap α β e.2
  | [], _, e, h => by cases h
  | [_], _, e, h => by cases h
  | b :: a :: r, hd, e, h => by
    simp only [eds] at h
    rcases List.mem_cons.mp h with rfl | h
    · exact (List.pairwise_cons.mp hd).1 a (by simp)
    · exact eds_dec (a :: r) (List.pairwise_cons.mp hd).2 e h
theorem mid {α β : Int} {L H : Pt} {s t line : List Pt} (C : Chn α β s line) (ht : Tri t) (hL : t.head? = some L) (hH : t.getLast? = some H) (Ls : L ∈ s) (Hs : H ∈ s) (ts : ∀ p ∈ t, p ∈ line) (lo : ∀ p ∈ line, kap α β L ≤ kap α β p) (hi : ∀ p ∈ line, kap α β p ≤ kap α β H) (lt : kap α β L < kap α β H) :
    ∀ e ∈ eds s, ∀ c ∈ t, c = e.1 ∨ c = e.2 ∨ 0 < cross e.1 e.2 c := fun e he c hc => by
  rcases tri_mid ht L hL H hH c hc with rfl | rfl | h
  · exact tri_edge C.tri e he _ Ls
  · exact tri_edge C.tri e he _ Hs
  · refine .inr (.inr ?_)
    have i := pluck5 α β e.1 e.2 L c H
    have x1 := C.all e he L (C.sub L Ls)
    have x2 := C.all e he H (C.sub H Hs)
    have x3 := eds_dec s C.dec e he
    have x4 := lo c (ts c hc)
    have x5 := hi c (ts c hc)
    have y1 := Int.mul_nonneg x1 (show 0 ≤ kap α β H - kap α β c by omega)
    have y2 := Int.mul_nonneg x2 (show 0 ≤ kap α β c - kap α β L by omega)
    have y3 := Int.mul_pos (show 0 < kap α β e.2 - kap α β e.1 by omega) h
    refine pos_of_mul (k := kap α β H - kap α β L) (by omega) ?_
    rw [Int.mul_comm, i]
    omega
theorem lo_k (T : Two line m M s1 s2) {N : Int} (hN : ∀ a ∈ line, ∀ b ∈ line, lexB a b → kap N 1 a < kap N 1 b) : ∀ p ∈ line, kap N 1 m ≤ kap N 1 p := fun p hp => by
  rcases T.lo p hp with rfl | h
  · exact Int.le_refl _
  · exact Int.le_of_lt (hN _ T.mm _ hp h)
theorem hi_k (T : Two line m M s1 s2) {N : Int} (hN : ∀ a ∈ line, ∀ b ∈ line, lexB a b → kap N 1 a < kap N 1 b) : ∀ p ∈ line, kap N 1 p ≤ kap N 1 M := fun p hp => by
  rcases T.hi p hp with rfl | h
  · exact Int.le_refl _
  · exact Int.le_of_lt (hN _ hp _ T.mM h)
/-- strictly to the left, but for its two ends -/
theorem strict (T : Two line m M s1 s2) : ∀ e ∈ fed (s1.reverse ++ s2.reverse ++ [m]), ∀ c ∈ s1.reverse ++ s2.reverse, c = e.1 ∨ c = e.2 ∨ 0 < cross e.1 e.2 c := fun e he c hc => by
  obtain ⟨N, hN⟩ := good_ex line
  have C1 := T.c1 N hN
  have C2 := T.c2 N hN
  obtain ⟨h1, h2⟩ := T.heads
  have lt := hN _ T.mm _ T.mM T.ne
  have m1 : m ∈ M :: s1 := List.mem_of_getLast? T.l1
  have m2 : M ∈ m :: s2 := List.mem_of_getLast? T.l2
  have a1 := mid C1 C2.tri rfl T.l2 m1 (by simp) C2.sub (T.lo_k hN) (T.hi_k hN) lt
  have a2 := mid C2 C1.tri rfl T.l1 m2 (by simp) C1.sub (fun p hp => by
    have := T.hi_k hN p hp
    rw [kap_neg, kap_neg]
    omega) (fun p hp => by
    have := T.lo_k hN p hp
    rw [kap_neg, kap_neg]
    omega) (by rw [kap_neg, kap_neg]; omega)
  rcases (T.edges e).mp he with h | h
  · rcases List.mem_append.mp hc with hc | hc
    · exact tri_edge C1.tri e h c (List.mem_cons_of_mem _ (List.mem_reverse.mp hc))
    · exact a1 e h c (List.mem_cons_of_mem _ (List.mem_reverse.mp hc))
  · rcases List.mem_append.mp hc with hc | hc
    · exact a2 e h c (List.mem_cons_of_mem _ (List.mem_reverse.mp hc))
    · exact tri_edge C2.tri e h c (List.mem_cons_of_mem _ (List.mem_reverse.mp hc))
/-- each once -/
theorem nodup (T : Two line m M s1 s2) : (s1.reverse ++ s2.reverse).Nodup := by
  obtain ⟨N, hN⟩ := good_ex line
  have C1 := T.c1 N hN
  have C2 := T.c2 N hN
  have d1 : (M :: s1).Nodup := C1.dec.imp fun h e => by subst e; omega
  have d2 : (m :: s2).Nodup := C2.dec.imp fun h e => by subst e; omega
  have n1 := List.nodup_cons.mp d1
  have n2 := List.nodup_cons.mp d2
  rw [List.nodup_append]
  refine ⟨List.pairwise_reverse.mpr (n1.2.imp Ne.symm), List.pairwise_reverse.mpr (n2.2.imp Ne.symm), fun x hx y hy e => ?_⟩
  subst e
  have hx := List.mem_reverse.mp hx
  have hy := List.mem_reverse.mp hy
  rcases tri_mid C1.tri M rfl m T.l1 x (List.mem_cons_of_mem _ hx) with rfl | rfl | h
  · exact n1.1 hx
  · exact n2.1 hy
  · rcases tri_mid C2.tri m rfl M T.l2 x (List.mem_cons_of_mem _ hy) with rfl | rfl | h'
    · exact n2.1 hy
    · exact n1.1 hx
    · have e1 : cross M x m = -cross m x M := by
        unfold cross
        grind
      omega
/-- an edge over a place -/
theorem over (f : Pt → Int) (X : Int) : ∀ (s : List Pt), (s.Pairwise fun b a => f a ≤ f b) → ∀ h ∈ s.head?, ∀ l ∈ s.getLast?, f l < f h → f l ≤ X → X ≤ f h → ∃ e ∈ eds s, f e.1 < f e.2 ∧ f e.1 ≤ X ∧ X ≤ f e.2
  | [], _, _, hh, _, _, _, _, _ => by cases hh
  | [a], _, h, hh, l, hl, z, _, _ => by
    cases hh
    have hl : a = l := by simpa using hl
    subst hl
    omega
  | d :: v :: r, hp, h, hh, l, hl, z, x1, x2 => by
    cases hh
    have vd := (List.pairwise_cons.mp hp).1 v (by simp)
    have nxt : f l < f v → X ≤ f v → ∃ e ∈ eds (d :: v :: r), f e.1 < f e.2 ∧ f e.1 ≤ X ∧ X ≤ f e.2 := fun y1 y2 => by
      obtain ⟨e, he, q⟩ := over f X (v :: r) (List.pairwise_cons.mp hp).2 v rfl l (by simpa using hl) y1 x1 y2
      exact ⟨e, by simp only [eds]; exact List.mem_cons_of_mem _ he, q⟩
    by_cases c : f v < f d
    · by_cases y : f v ≤ X
      · exact ⟨(v, d), by simp [eds], c, y, x2⟩
      · exact nxt (by omega) (by omega)
    · exact nxt (by omega) (by omega)
/-- the greatest one over the least place stands in it -/
theorem left (T : Two line m M s1 s2) {p : Pt} (hp : p ∈ line) (hx : p.1 = m.1) (hy : ∀ q ∈ line, q.1 = m.1 → q.2 ≤ p.2) : p ∈ s1.reverse ++ s2.reverse := by
  obtain ⟨N, hN⟩ := good_ex line
  have C1 := T.c1 N hN
  have C2 := T.c2 N hN
  obtain ⟨h1, h2⟩ := T.heads
  rcases T.lo p hp with rfl | hmp
  · exact List.mem_append_left _ (List.mem_reverse.mpr (List.mem_of_getLast? h1))
  have py : m.2 < p.2 := by unfold lexB at hmp; omega
  have x0 : ∀ q ∈ line, m.1 ≤ q.1 := fun q hq => by
    rcases T.lo q hq with rfl | h
    · exact Int.le_refl _
    · unfold lexB at h; omega
  cases hs : s2 with
  | nil => rw [hs] at h2; cases h2
  | cons c r =>
    rw [hs] at C2
    have cl := C2.sub c (by simp)
    have ex := C2.all (c, m) (by simp [eds]) p hp
    have cx := x0 c cl
    have cm : c.1 = m.1 := by
      by_cases z : c.1 = m.1
      · exact z
      · exfalso
        unfold cross at ex
        simp only at ex
        have e : (m.1 - c.1) * (p.2 - c.2) - (m.2 - c.2) * (p.1 - c.1) = -((c.1 - m.1) * (p.2 - m.2)) := by rw [hx]; grind
        rw [e] at ex
        have := Int.mul_pos (show 0 < c.1 - m.1 by omega) (show 0 < p.2 - m.2 by omega)
        omega
    have cy := hy c cl cm
    have pc : p = c := by
      by_cases z : c.2 < p.2
      · exfalso
        cases hr : r with
        | nil =>
          rw [hs, hr] at h2
          have h2 : c = M := by simpa using h2
          rcases T.hi p hp with h | h
          · rw [h, h2] at z
            omega
          · rw [← h2] at h
            unfold lexB at h
            omega
        | cons d r' =>
          rw [hr] at C2
          have dl := C2.sub d (by simp)
          have ed := C2.all (d, c) (by simp [eds]) p hp
          have dx := x0 d dl
          have tr : 0 < cross d c m := (List.pairwise_cons.mp (List.pairwise_cons.mp C2.tri.1).2 |> fun _ => (List.pairwise_cons.mp C2.tri.1).1 d (by simp))
          by_cases w : d.1 = m.1
          · unfold cross at tr
            rw [cm, w] at tr
            simp at tr
          · unfold cross at ed
            simp only at ed
            have e : (c.1 - d.1) * (p.2 - d.2) - (c.2 - d.2) * (p.1 - d.1) = -((d.1 - c.1) * (p.2 - c.2)) := by rw [hx, ← cm]; grind
            rw [e] at ed
            have := Int.mul_pos (show 0 < d.1 - c.1 by omega) (show 0 < p.2 - c.2 by omega)
            omega
      · exact Prod.ext (by omega) (by omega)
    rw [pc]
    simp
end Two

--part
/-! ### what is over a place -/
def edg (G : List Pt) : List (Pt × Pt) := fed (G ++ G.take 1)
def yOn (a b : Pt) (X : Int) : Int := a.2 + (b.2 - a.2) * (X - a.1) / (b.1 - a.1)
def sOf (X : Int) (e : Pt × Pt) : List Int := if e.1.1 = X then [e.1.2] else if (e.1.1 - X) * (e.2.1 - X) < 0 then [yOn e.1 e.2 X] else []
def sL (es : List (Pt × Pt)) (X : Int) : List Int := es.flatMap (sOf X)
/-- the divisions come out even -/
def Even (es : List (Pt × Pt)) (X : Int) : Prop := ∀ e ∈ es, (e.1.1 - X) * (e.2.1 - X) < 0 → cross e.1 e.2 (X, yOn e.1 e.2 X) = 0
theorem neg_prod {x y : Int} (h : x * y < 0) : x < 0 ∧ 0 < y ∨ 0 < x ∧ y < 0 := by
  rcases Int.lt_trichotomy x 0 with a | a | a
  · rcases Int.lt_trichotomy y 0 with b | b | b
    · have := Int.mul_pos_of_neg_of_neg a b
      omega
    · rw [b, Int.mul_zero] at h
      omega
    · exact .inl ⟨a, b⟩
  · rw [a, Int.zero_mul] at h
    omega
  · rcases Int.lt_trichotomy y 0 with b | b | b
    · exact .inr ⟨a, b⟩
    · rw [b, Int.mul_zero] at h
      omega
    · have := Int.mul_pos a b
      omega
theorem prod_neg {x y : Int} (h : x < 0 ∧ 0 < y ∨ 0 < x ∧ y < 0) : x * y < 0 := by
  rcases h with ⟨a, b⟩ | ⟨a, b⟩
  · exact Int.mul_neg_of_neg_of_pos a b
  · exact Int.mul_neg_of_pos_of_neg a b
theorem mem_sL {es : List (Pt × Pt)} {X y : Int} : y ∈ sL es X ↔ ∃ e ∈ es, (e.1.1 = X ∧ y = e.1.2 ∨ (e.1.1 - X) * (e.2.1 - X) < 0 ∧ y = yOn e.1 e.2 X) := by
  unfold sL
  rw [List.mem_flatMap]
  constructor
  · rintro ⟨e, he, hy⟩
    refine ⟨e, he, ?_⟩
    unfold sOf at hy
    by_cases h1 : e.1.1 = X
    · rw [if_pos h1] at hy
      exact .inl ⟨h1, List.mem_singleton.mp hy⟩
    · rw [if_neg h1] at hy
      by_cases h2 : (e.1.1 - X) * (e.2.1 - X) < 0
      · rw [if_pos h2] at hy
        exact .inr ⟨h2, List.mem_singleton.mp hy⟩
      · rw [if_neg h2] at hy
        cases hy
  · rintro ⟨e, he, h | ⟨h1, h2⟩⟩
    · refine ⟨e, he, ?_⟩
      unfold sOf
      rw [if_pos h.1, h.2]
      exact List.mem_singleton.mpr rfl
    · refine ⟨e, he, ?_⟩
      unfold sOf
      have : e.1.1 ≠ X := fun z => by
        rw [z, Int.sub_self, Int.zero_mul] at h1
        omega
      rw [if_neg this, if_pos h1, h2]
      exact List.mem_singleton.mpr rfl
/-- a left side goes along straight -/
theorem cross_on {a b q : Pt} (c d : Pt) (h : cross a b q = 0) : (b.1 - a.1) * cross c d q = (b.1 - q.1) * cross c d a + (q.1 - a.1) * cross c d b := by
  have : (b.1 - a.1) * cross c d q - ((b.1 - q.1) * cross c d a + (q.1 - a.1) * cross c d b) = (d.1 - c.1) * cross a b q := by
    unfold cross
    grind
  rw [h, Int.mul_zero] at this
  omega
theorem cross_up (c d : Pt) (X y z : Int) : cross c d (X, z) - cross c d (X, y) = (d.1 - c.1) * (z - y) := by
  unfold cross
  simp only
  grind
theorem cross_amid (c d : Pt) (X y1 y y2 : Int) : (y2 - y1) * cross c d (X, y) = (y2 - y) * cross c d (X, y1) + (y - y1) * cross c d (X, y2) := by
  unfold cross
  simp only
  grind
theorem sL_in {es : List (Pt × Pt)} {X y1 : Int} (ev : Even es X) (c d : Pt) (h : ∀ e ∈ es, 0 ≤ cross c d e.1 ∧ 0 ≤ cross c d e.2) (hy : y1 ∈ sL es X) : 0 ≤ cross c d (X, y1) := by
  obtain ⟨e, he, ⟨h1, h2⟩ | ⟨h1, h2⟩⟩ := mem_sL.mp hy
  · have : (X, y1) = e.1 := Prod.ext h1.symm h2
    rw [this]
    exact (h e he).1
  · have z := ev e he h1
    rw [← h2] at z
    have i := cross_on c d z
    simp only at i
    have g1 := (h e he).1
    have g2 := (h e he).2
    rcases neg_prod h1 with ⟨u, v⟩ | ⟨u, v⟩
    · refine nn_of_mul (k := e.2.1 - e.1.1) (by omega) ?_
      rw [i]
      have := Int.mul_nonneg (show 0 ≤ e.2.1 - X by omega) g1
      have := Int.mul_nonneg (show 0 ≤ X - e.1.1 by omega) g2
      omega
    · refine nn_of_mul (k := e.1.1 - e.2.1) (by omega) ?_
      have i2 : (e.1.1 - e.2.1) * cross c d (X, y1) = (X - e.2.1) * cross c d e.1 + (e.1.1 - X) * cross c d e.2 := by
        have : (e.1.1 - e.2.1) * cross c d (X, y1) = -((e.2.1 - e.1.1) * cross c d (X, y1)) := by grind
        rw [this, i]
        grind
      rw [i2]
      have := Int.mul_nonneg (show 0 ≤ X - e.2.1 by omega) g1
      have := Int.mul_nonneg (show 0 ≤ e.1.1 - X by omega) g2
      omega
/-- above an edge that goes to the right, or below one that goes to the left -/
theorem sL_near {es : List (Pt × Pt)} {X y : Int} (ev : Even es X) (st : ∀ e ∈ es, ∃ e' ∈ es, e'.1 = e.2) {e : Pt × Pt} (he : e ∈ es) (h : 0 ≤ cross e.1 e.2 (X, y)) :
    (e.1.1 < e.2.1 → e.1.1 ≤ X → X ≤ e.2.1 → ∃ y1 ∈ sL es X, y1 ≤ y) ∧ (e.2.1 < e.1.1 → e.2.1 ≤ X → X ≤ e.1.1 → ∃ y2 ∈ sL es X, y ≤ y2) := by
  have at1 : e.1.1 = X → e.1.2 ∈ sL es X := fun z => mem_sL.mpr ⟨e, he, .inl ⟨z, rfl⟩⟩
  have at2 : e.2.1 = X → e.2.2 ∈ sL es X := fun z => by
    obtain ⟨e', he', q⟩ := st e he
    exact mem_sL.mpr ⟨e', he', .inl ⟨by rw [q]; exact z, by rw [q]⟩⟩
  have c1 : e.1.1 = X → cross e.1 e.2 (X, y) = (e.2.1 - e.1.1) * (y - e.1.2) := fun z => by
    unfold cross
    simp only
    rw [z]
    grind
  have c2 : e.2.1 = X → cross e.1 e.2 (X, y) = (e.2.1 - e.1.1) * (y - e.2.2) := fun z => by
    unfold cross
    simp only
    rw [z]
    grind
  constructor
  · intro g1 g2 g3
    by_cases z1 : e.1.1 = X
    · refine ⟨_, at1 z1, ?_⟩
      rw [c1 z1] at h
      have := nn_of_mul (show 0 < e.2.1 - e.1.1 by omega) h
      omega
    by_cases z2 : e.2.1 = X
    · refine ⟨_, at2 z2, ?_⟩
      rw [c2 z2] at h
      have := nn_of_mul (show 0 < e.2.1 - e.1.1 by omega) h
      omega
    have n : (e.1.1 - X) * (e.2.1 - X) < 0 := prod_neg (.inl ⟨by omega, by omega⟩)
    refine ⟨_, mem_sL.mpr ⟨e, he, .inr ⟨n, rfl⟩⟩, ?_⟩
    have u := cross_up e.1 e.2 X (yOn e.1 e.2 X) y
    rw [ev e he n, Int.sub_zero] at u
    rw [u] at h
    have := nn_of_mul (show 0 < e.2.1 - e.1.1 by omega) h
    omega
  · intro g1 g2 g3
    have flip : ∀ z : Int, (e.2.1 - e.1.1) * (y - z) = (e.1.1 - e.2.1) * (z - y) := fun z => by grind
    by_cases z1 : e.1.1 = X
    · refine ⟨_, at1 z1, ?_⟩
      rw [c1 z1, flip] at h
      have := nn_of_mul (show 0 < e.1.1 - e.2.1 by omega) h
      omega
    by_cases z2 : e.2.1 = X
    · refine ⟨_, at2 z2, ?_⟩
      rw [c2 z2, flip] at h
      have := nn_of_mul (show 0 < e.1.1 - e.2.1 by omega) h
      omega
    have n : (e.1.1 - X) * (e.2.1 - X) < 0 := prod_neg (.inr ⟨by omega, by omega⟩)
    refine ⟨_, mem_sL.mpr ⟨e, he, .inr ⟨n, rfl⟩⟩, ?_⟩
    have u := cross_up e.1 e.2 X (yOn e.1 e.2 X) y
    rw [ev e he n, Int.sub_zero] at u
    rw [u, flip] at h
    have := nn_of_mul (show 0 < e.1.1 - e.2.1 by omega) h
    omega
namespace Two
variable {line : List Pt} {m M : Pt} {s1 s2 : List Pt}
theorem take1 (T : Two line m M s1 s2) : (s1.reverse ++ s2.reverse).take 1 = [m] := by
  have h := T.heads.1
  have : s1.reverse.head? = some m := by rw [List.head?_reverse]; exact h
  cases hs : s1.reverse with
  | nil => rw [hs] at this; cases this
  | cons x y =>
    rw [hs] at this
    cases this
    rfl
theorem edg_is (T : Two line m M s1 s2) : edg (s1.reverse ++ s2.reverse) = fed (s1.reverse ++ s2.reverse ++ [m]) := by
  unfold edg
  rw [T.take1]
theorem eds_pre (x y : Pt) : ∀ pre : List Pt, (y, x) ∈ eds (pre ++ [x, y])
  | [] => by simp [eds]
  | [d] => by simp [eds]
  | d :: e :: r => by
    have := eds_pre x y (e :: r)
    simp only [List.cons_append, eds] at this ⊢
    exact List.mem_cons_of_mem _ this
/-- nothing beyond the least point is on the left of all edges, where there are three corners -/
theorem least {α β : Int} {m M : Pt} {s t line : List Pt} (C1 : Chn α β (M :: s) line) (C2 : Tri (m :: t)) (D2 : (m :: t).Pairwise fun b a => kap α β b < kap α β a) (l1 : (M :: s).getLast? = some m) (l2 : (m :: t).getLast? = some M) (hM : kap α β m < kap α β M) (Ml : M ∈ line) (a2 : ∀ e ∈ eds (m :: t), ∀ p ∈ line, 0 ≤ cross e.1 e.2 p) (h3 : 3 ≤ s.length + t.length) {p : Pt} (hp : ∀ e, e ∈ eds (M :: s) ∨ e ∈ eds (m :: t) → 0 ≤ cross e.1 e.2 p) : kap α β m ≤ kap α β p := by
  by_cases z : kap α β m ≤ kap α β p
  · exact z
  exfalso
  have neM : m ≠ M := fun e => by subst e; omega
  -- the first edge of the one half
  have f1 : ∃ b, (m, b) ∈ eds (M :: s) ∧ kap α β m < kap α β b ∧ (2 ≤ s.length → 0 < cross m b M) ∧ 0 ≤ cross m b M := by
    obtain ⟨s0, hs0⟩ : ∃ s0, M :: s = s0 ++ [m] := by
      refine ⟨(M :: s).dropLast, ?_⟩
      have : (M :: s).getLast (by simp) = m := by
        rw [List.getLast?_eq_some_getLast (by simp)] at l1
        exact Option.some.inj l1
      conv => lhs; rw [← List.dropLast_concat_getLast (l := M :: s) (by simp)]
      rw [this]
    cases hr : s0.reverse with
    | nil =>
      have : s0 = [] := by simpa using hr
      rw [this] at hs0
      have := congrArg List.head? hs0
      simp at this
      exact absurd this.symm neM
    | cons b r =>
      have e0 : s0 = r.reverse ++ [b] := by
        have := congrArg List.reverse hr
        simpa using this
      have e1 : M :: s = r.reverse ++ [b, m] := by rw [hs0, e0]; simp
      have mem : (m, b) ∈ eds (M :: s) := by rw [e1]; exact eds_pre b m _
      have km := eds_dec _ C1.dec _ mem
      have ge := C1.all _ mem M Ml
      refine ⟨b, mem, km, fun h2 => ?_, ge⟩
      have bm : b ∈ M :: s := (eds_mem _ _ mem).2
      rcases tri_mid C1.tri M rfl m l1 b bm with y | y | y
      · exfalso
        have l := congrArg List.length e1
        simp only [List.length_cons, List.length_append, List.length_reverse, List.length_nil] at l
        cases hrr : r.reverse with
        | nil =>
          have : r.length = 0 := by rw [← List.length_reverse, hrr]; rfl
          omega
        | cons d q =>
          rw [hrr] at e1
          have hd : M = d := by
            have := congrArg List.head? e1
            simpa using this
          have dec := C1.dec
          rw [e1] at dec
          have := (List.pairwise_cons.mp dec).1 b (by simp)
          rw [← hd, y] at this
          omega
      · rw [y] at km
        exact absurd km (by simp)
      · exact y
  -- the last edge of the other
  have f2 : ∃ c, (c, m) ∈ eds (m :: t) ∧ kap α β m < kap α β c ∧ (2 ≤ t.length → 0 < cross c m M) ∧ 0 ≤ cross c m M := by
    cases ht : t with
    | nil =>
      rw [ht] at l2
      simp at l2
      exact absurd l2 neM
    | cons c r =>
      rw [ht] at C2 D2 l2 a2
      have mem : (c, m) ∈ eds (m :: c :: r) := by simp [eds]
      refine ⟨c, mem, (List.pairwise_cons.mp D2).1 c (by simp), fun h2 => ?_, a2 _ mem M Ml⟩
      rcases tri_mid C2 m rfl M l2 c (by simp) with y | y | y
      · have := (List.pairwise_cons.mp D2).1 c (by simp)
        rw [y] at this
        omega
      · exfalso
        cases hr : r with
        | nil =>
          rw [hr] at h2
          simp at h2
        | cons d q =>
          rw [hr] at l2 D2
          have ml : M ∈ d :: q := by
            have : (d :: q).getLast? = some M := by simpa using l2
            exact List.mem_of_getLast? this
          have := (List.pairwise_cons.mp (List.pairwise_cons.mp D2).2).1 M ml
          rw [y] at this
          omega
      · rw [← cross_rot] at y
        exact y
  obtain ⟨b, b1, b2, b3, b4⟩ := f1
  obtain ⟨c, c1, c2, c3, c4⟩ := f2
  have pb := hp _ (.inl b1)
  have pc := hp _ (.inr c1)
  simp only at pb pc
  have i1 := pluck α β m b M p
  have i2 := pluck α β m c M p
  have e1 : cross m c p = -cross c m p := cross_swap c m p
  have e2 : cross m c M = -cross c m M := cross_swap c m M
  rw [e1, e2] at i2
  have w : 0 < kap α β m - kap α β p := by omega
  have x1 := Int.mul_nonneg (show 0 ≤ kap α β M - kap α β m by omega) pb
  have x2 := Int.mul_nonneg (show 0 ≤ kap α β m - kap α β p by omega) b4
  have x3 := Int.mul_nonneg (show 0 ≤ kap α β M - kap α β m by omega) pc
  have x4 := Int.mul_nonneg (show 0 ≤ kap α β m - kap α β p by omega) c4
  have j1 : (kap α β b - kap α β m) * cross m M p = (kap α β M - kap α β m) * cross m b p + (kap α β m - kap α β p) * cross m b M := by rw [i1]; grind
  have j2 : (kap α β c - kap α β m) * -cross m M p = (kap α β M - kap α β m) * cross c m p + (kap α β m - kap α β p) * cross c m M := by
    rw [Int.mul_neg, i2]
    grind
  have g1 : 0 ≤ cross m M p := nn_of_mul (show 0 < kap α β b - kap α β m by omega) (by rw [j1]; omega)
  have g2 : 0 ≤ -cross m M p := nn_of_mul (show 0 < kap α β c - kap α β m by omega) (by rw [j2]; omega)
  have g0 : cross m M p = 0 := by omega
  rw [g0, Int.mul_zero] at j1
  rw [g0, Int.neg_zero, Int.mul_zero] at j2
  by_cases q : 2 ≤ s.length
  · have := Int.mul_pos w (b3 q)
    omega
  · have := Int.mul_pos w (c3 (by omega))
    omega
/-- what is on the left of all edges lies between the least and the greatest -/
theorem amid (T : Two line m M s1 s2) (h3 : 3 ≤ (s1.reverse ++ s2.reverse).length) {p : Pt} (hp : ∀ e ∈ fed (s1.reverse ++ s2.reverse ++ [m]), 0 ≤ cross e.1 e.2 p) : m.1 ≤ p.1 ∧ p.1 ≤ M.1 := by
  obtain ⟨B, h0, hB⟩ := bound_ex (p :: line)
  have hN : ∀ a ∈ p :: line, ∀ b ∈ p :: line, lexB a b → kap (2 * B + 1) 1 a < kap (2 * B + 1) 1 b := fun a ha b hb h => lex_kap (by omega) (hB a ha) (hB b hb) h
  have hN' : ∀ a ∈ line, ∀ b ∈ line, lexB a b → kap (2 * B + 1) 1 a < kap (2 * B + 1) 1 b := fun a ha b hb h => hN a (List.mem_cons_of_mem _ ha) b (List.mem_cons_of_mem _ hb) h
  generalize 2 * B + 1 = N at *
  have C1 := T.c1 N hN'
  have C2 := T.c2 N hN'
  have lt := hN' _ T.mm _ T.mM T.ne
  have hp' : ∀ e, e ∈ eds (M :: s1) ∨ e ∈ eds (m :: s2) → 0 ≤ cross e.1 e.2 p := fun e h => hp e ((T.edges e).mpr h)
  have len : 3 ≤ s1.length + s2.length := by simpa using h3
  have k1 := least C1 C2.tri (C2.dec.imp fun h => by rw [kap_neg, kap_neg] at h; omega) T.l1 T.l2 lt T.mM C2.all len hp'
  have k2 := least C2 C1.tri (C1.dec.imp fun h => by rw [kap_neg, kap_neg]; omega) T.l2 T.l1 (by rw [kap_neg, kap_neg]; omega) T.mm C1.all (by omega) (fun e h => hp' e h.symm)
  rw [kap_neg, kap_neg] at k2
  constructor
  · by_cases z : m.1 ≤ p.1
    · exact z
    · have := hN p (by simp) m (List.mem_cons_of_mem _ T.mm) (.inl (by omega))
      omega
  · by_cases z : p.1 ≤ M.1
    · exact z
    · have := hN M (List.mem_cons_of_mem _ T.mM) p (by simp) (.inl (by omega))
      omega
end Two

--part
/-! ### a point in a polygon -/
def amidI (a b c : Int) : Prop := a ≤ c ∧ c ≤ b ∨ b ≤ c ∧ c ≤ a
def liesP (G : List Pt) (p : Pt) : Prop := (G.length < 2 ∧ p ∈ G) ∨ (∃ a b, G = [a, b] ∧ amidI a.1 b.1 p.1 ∧ amidI a.2 b.2 p.2 ∧ cross a b p = 0) ∨ (3 ≤ G.length ∧ ∀ e ∈ edg G, 0 ≤ cross e.1 e.2 p)
def hasP (G : List Pt) (p : Pt) : Prop := (∃ y1 ∈ sL (edg G) p.1, y1 ≤ p.2) ∧ ∃ y2 ∈ sL (edg G) p.1, p.2 ≤ y2
theorem fed_next (m : Pt) (L : List Pt) (h : L.head? = some m) (hl : 1 ≤ L.length) : ∀ e ∈ fed (L ++ [m]), ∃ e' ∈ fed (L ++ [m]), e'.1 = e.2 := fun e he => by
  rw [fed_map m] at he ⊢
  simp only [List.mem_map, List.mem_range] at he ⊢
  obtain ⟨k, hk, rfl⟩ := he
  have len : (L ++ [m]).length = L.length + 1 := by simp
  rw [len] at hk ⊢
  by_cases z : k + 1 < L.length
  · exact ⟨_, ⟨k + 1, by omega, rfl⟩, rfl⟩
  · have k1 : k + 1 = L.length := by omega
    refine ⟨_, ⟨0, by omega, rfl⟩, ?_⟩
    simp only
    rw [k1]
    have a1 : (L ++ [m]).getD L.length m = m := by simp
    have a2 : (L ++ [m]).getD 0 m = m := by
      cases L with
      | nil => rfl
      | cons x r =>
        cases h
        rfl
    rw [a1, a2]
theorem seg_y {m M : Pt} {X y : Int} (h : m.1 < M.1) (h1 : m.1 ≤ X) (h2 : X ≤ M.1) (c : cross m M (X, y) = 0) : amidI m.2 M.2 y := by
  unfold cross at c
  simp only at c
  have e : (M.1 - m.1) * (y - m.2) = (M.2 - m.2) * (X - m.1) := by omega
  unfold amidI
  rcases Int.le_total m.2 M.2 with z | z
  · left
    have a := Int.mul_nonneg (show 0 ≤ M.2 - m.2 by omega) (show 0 ≤ X - m.1 by omega)
    rw [← e] at a
    have b := nn_of_mul (show 0 < M.1 - m.1 by omega) a
    have a2 := Int.mul_nonneg (show 0 ≤ M.2 - m.2 by omega) (show 0 ≤ M.1 - X by omega)
    have e2 : (M.1 - m.1) * (M.2 - y) = (M.2 - m.2) * (M.1 - X) := by grind
    rw [← e2] at a2
    have b2 := nn_of_mul (show 0 < M.1 - m.1 by omega) a2
    omega
  · right
    have a := Int.mul_nonneg (show 0 ≤ m.2 - M.2 by omega) (show 0 ≤ X - m.1 by omega)
    have e1 : (M.1 - m.1) * (m.2 - y) = (m.2 - M.2) * (X - m.1) := by grind
    rw [← e1] at a
    have b := nn_of_mul (show 0 < M.1 - m.1 by omega) a
    have a2 := Int.mul_nonneg (show 0 ≤ m.2 - M.2 by omega) (show 0 ≤ M.1 - X by omega)
    have e2 : (M.1 - m.1) * (y - M.2) = (m.2 - M.2) * (M.1 - X) := by grind
    rw [← e2] at a2
    have b2 := nn_of_mul (show 0 < M.1 - m.1 by omega) a2
    omega
theorem on_uniq {a b : Pt} {X y z : Int} (h : a.1 ≠ b.1) (c1 : cross a b (X, y) = 0) (c2 : cross a b (X, z) = 0) : y = z := by
  have u := cross_up a b X y z
  rw [c1, c2] at u
  have : (b.1 - a.1) * (z - y) = 0 := by omega
  rcases Int.mul_eq_zero.mp this with q | q <;> omega
theorem has_two {m M : Pt} (ne : lexB m M) (p : Pt) (ev : Even [(m, M), (M, m)] p.1) : ((∃ y1 ∈ sL [(m, M), (M, m)] p.1, y1 ≤ p.2) ∧ ∃ y2 ∈ sL [(m, M), (M, m)] p.1, p.2 ≤ y2) ↔ amidI m.1 M.1 p.1 ∧ amidI m.2 M.2 p.2 ∧ cross m M p = 0 := by
  obtain ⟨X, y⟩ := p
  simp only at ev ⊢
  have mem : ∀ z, z ∈ sL [(m, M), (M, m)] X ↔ (m.1 = X ∧ z = m.2 ∨ (m.1 - X) * (M.1 - X) < 0 ∧ z = yOn m M X) ∨ (M.1 = X ∧ z = M.2 ∨ (M.1 - X) * (m.1 - X) < 0 ∧ z = yOn M m X) := fun z => by
    rw [mem_sL]
    constructor
    · rintro ⟨e, he, h⟩
      simp only [List.mem_cons, List.not_mem_nil, or_false] at he
      rcases he with rfl | rfl
      · exact .inl h
      · exact .inr h
    · rintro (h | h)
      · exact ⟨(m, M), by simp, h⟩
      · exact ⟨(M, m), by simp, h⟩
  by_cases v : m.1 = M.1
  · have my : m.2 < M.2 := by unfold lexB at ne; omega
    have no1 : ¬ (m.1 - X) * (M.1 - X) < 0 := fun z => by
      have := neg_prod z
      omega
    have no2 : ¬ (M.1 - X) * (m.1 - X) < 0 := fun z => by
      have := neg_prod z
      omega
    have c0 : m.1 = X → cross m M (X, y) = 0 := fun z => by
      unfold cross
      simp only
      rw [← z, ← v]
      simp
    unfold amidI
    constructor
    · rintro ⟨⟨y1, h1, g1⟩, y2, h2, g2⟩
      rw [mem] at h1 h2
      have mx : m.1 = X := by
        rcases h1 with (h | h) | h | h
        · exact h.1
        · exact absurd h.1 no1
        · omega
        · exact absurd h.1 no2
      refine ⟨by omega, ?_, c0 mx⟩
      have b1 : y1 = m.2 ∨ y1 = M.2 := by
        rcases h1 with (h | h) | h | h
        · exact .inl h.2
        · exact absurd h.1 no1
        · exact .inr h.2
        · exact absurd h.1 no2
      have b2 : y2 = m.2 ∨ y2 = M.2 := by
        rcases h2 with (h | h) | h | h
        · exact .inl h.2
        · exact absurd h.1 no1
        · exact .inr h.2
        · exact absurd h.1 no2
      omega
    · rintro ⟨h1, h2, _⟩
      have mx : m.1 = X := by omega
      exact ⟨⟨m.2, (mem _).mpr (.inl (.inl ⟨mx, rfl⟩)), by omega⟩, M.2, (mem _).mpr (.inr (.inl ⟨by omega, rfl⟩)), by omega⟩
  · have lt : m.1 < M.1 := by unfold lexB at ne; omega
    have o1 : (m.1 - X) * (M.1 - X) < 0 → cross m M (X, yOn m M X) = 0 := fun z => ev (m, M) (by simp) z
    have o2 : (M.1 - X) * (m.1 - X) < 0 → cross m M (X, yOn M m X) = 0 := fun z => by
      have := ev (M, m) (by simp) z
      simp only at this
      rw [cross_swap] at this
      omega
    have at1 : cross m M (m.1, m.2) = 0 := (cross_12 m M).2
    have at2 : cross m M (M.1, M.2) = 0 := (cross_12 m M).1
    have all : ∀ z, z ∈ sL [(m, M), (M, m)] X → cross m M (X, z) = 0 ∧ m.1 ≤ X ∧ X ≤ M.1 := fun z hz => by
      rw [mem] at hz
      rcases hz with (⟨h, rfl⟩ | ⟨h, rfl⟩) | ⟨h, rfl⟩ | ⟨h, rfl⟩
      · rw [← h]
        exact ⟨at1, by omega, by omega⟩
      · exact ⟨o1 h, by have := neg_prod h; omega, by have := neg_prod h; omega⟩
      · rw [← h]
        exact ⟨at2, by omega, by omega⟩
      · exact ⟨o2 h, by have := neg_prod h; omega, by have := neg_prod h; omega⟩
    constructor
    · rintro ⟨⟨y1, h1, g1⟩, y2, h2, g2⟩
      obtain ⟨a1, a2, a3⟩ := all y1 h1
      obtain ⟨b1, _, _⟩ := all y2 h2
      have := on_uniq (by omega) a1 b1
      have e : y = y1 := by omega
      rw [← e] at a1
      exact ⟨.inl ⟨a2, a3⟩, seg_y lt a2 a3 a1, a1⟩
    · rintro ⟨h1, _, h3⟩
      have x1 : m.1 ≤ X ∧ X ≤ M.1 := by unfold amidI at h1; omega
      have : ∃ z, z ∈ sL [(m, M), (M, m)] X := by
        by_cases u : m.1 = X
        · exact ⟨_, (mem _).mpr (.inl (.inl ⟨u, rfl⟩))⟩
        · by_cases w : M.1 = X
          · exact ⟨_, (mem _).mpr (.inr (.inl ⟨w, rfl⟩))⟩
          · exact ⟨_, (mem _).mpr (.inl (.inr ⟨prod_neg (.inl ⟨by omega, by omega⟩), rfl⟩))⟩
      obtain ⟨z, hz⟩ := this
      have := on_uniq (by omega) (all z hz).1 h3
      subst this
      exact ⟨⟨z, hz, Int.le_refl _⟩, z, hz, Int.le_refl _⟩
theorem has_iff {line : List Pt} (hs : line.Pairwise lexB) (p : Pt) (ev : Even (edg (polyL line)) p.1) : hasP (polyL line) p ↔ liesP (polyL line) p := by
  by_cases h2 : 2 ≤ line.length
  · obtain ⟨m, M, s1, s2, T⟩ := two_ex hs h2
    rw [T.poly hs h2] at ev ⊢
    obtain ⟨g1, g2⟩ := T.heads
    have n1 : 1 ≤ s1.length := by
      cases hq : s1 with
      | nil => rw [hq] at g1; cases g1
      | cons _ _ => simp
    have n2 : 1 ≤ s2.length := by
      cases hq : s2 with
      | nil => rw [hq] at g2; cases g2
      | cons _ _ => simp
    have len : (s1.reverse ++ s2.reverse).length = s1.length + s2.length := by simp
    by_cases c2 : s1.length + s2.length = 2
    · obtain ⟨a, ha⟩ := List.length_eq_one_iff.mp (show s1.length = 1 by omega)
      obtain ⟨b, hb⟩ := List.length_eq_one_iff.mp (show s2.length = 1 by omega)
      rw [ha] at g1
      rw [hb] at g2
      have g1 : a = m := by simpa using g1
      have g2 : b = M := by simpa using g2
      subst g1 g2
      rw [ha, hb] at ev ⊢
      have eG : ([a].reverse ++ [b].reverse : List Pt) = [a, b] := rfl
      rw [eG] at ev ⊢
      have ee : edg [a, b] = [(a, b), (b, a)] := rfl
      rw [ee] at ev
      unfold hasP liesP
      rw [ee, has_two T.ne p ev]
      constructor
      · intro h
        exact .inr (.inl ⟨a, b, rfl, h⟩)
      · rintro (h | ⟨x, y, e, h⟩ | h)
        · exact absurd h.1 (by simp)
        · simp only [List.cons.injEq, and_true] at e
          obtain ⟨rfl, rfl⟩ := e
          exact h
        · exact absurd h.1 (by simp)
    · have l3 : 3 ≤ (s1.reverse ++ s2.reverse).length := by omega
      have ee := T.edg_is
      have iff0 : liesP (s1.reverse ++ s2.reverse) p ↔ ∀ e ∈ edg (s1.reverse ++ s2.reverse), 0 ≤ cross e.1 e.2 p := by
        constructor
        · rintro (h | ⟨a, b, e, _⟩ | h)
          · have := h.1
            omega
          · rw [e] at l3
            simp at l3
          · exact h.2
        · intro h
          exact .inr (.inr ⟨l3, h⟩)
      rw [iff0]
      unfold hasP
      rw [ee] at ev ⊢
      have on : ∀ e ∈ fed (s1.reverse ++ s2.reverse ++ [m]), e.1 ∈ line ∧ e.2 ∈ line := fun e he => by
        obtain ⟨N, hN⟩ := good_ex line
        rcases (T.edges e).mp he with h | h
        · have := Two.eds_mem _ e h
          exact ⟨(T.c1 N hN).sub _ this.1, (T.c1 N hN).sub _ this.2⟩
        · have := Two.eds_mem _ e h
          exact ⟨(T.c2 N hN).sub _ this.1, (T.c2 N hN).sub _ this.2⟩
      obtain ⟨X, y⟩ := p
      simp only at ev ⊢
      constructor
      · rintro ⟨⟨y1, h1, q1⟩, y2, h2, q2⟩ e he
        have inn : ∀ e' ∈ fed (s1.reverse ++ s2.reverse ++ [m]), 0 ≤ cross e.1 e.2 e'.1 ∧ 0 ≤ cross e.1 e.2 e'.2 := fun e' he' => ⟨T.all e he _ (on e' he').1, T.all e he _ (on e' he').2⟩
        have a1 := sL_in ev e.1 e.2 inn h1
        have a2 := sL_in ev e.1 e.2 inn h2
        by_cases z : y1 = y2
        · have : y = y1 := by omega
          rw [this]
          exact a1
        · refine nn_of_mul (k := y2 - y1) (by omega) ?_
          rw [cross_amid]
          have := Int.mul_nonneg (show 0 ≤ y2 - y by omega) a1
          have := Int.mul_nonneg (show 0 ≤ y - y1 by omega) a2
          omega
      · intro h
        obtain ⟨x1, x2⟩ := T.amid l3 h
        simp only at x1 x2
        have st := fed_next m (s1.reverse ++ s2.reverse) (by
          have := T.take1
          cases hq : s1.reverse ++ s2.reverse with
          | nil => rw [hq] at this; cases this
          | cons u v =>
            rw [hq] at this
            simpa using this) (by omega)
        obtain ⟨N, hN⟩ := good_ex line
        have C1 := T.c1 N hN
        have C2 := T.c2 N hN
        have mono : ∀ a ∈ line, ∀ b ∈ line, kap N 1 a < kap N 1 b → a.1 ≤ b.1 := fun a ha b hb z => by
          rcases lex_tri a b with e | e | e
          · rw [e]
            exact Int.le_refl _
          · unfold lexB at e; omega
          · have := hN b hb a ha e
            omega
        -- not all over one place
        have lt : m.1 < M.1 := by
          by_cases z : m.1 < M.1
          · exact z
          · exfalso
            have all0 : ∀ q ∈ line, q.1 = m.1 := fun q hq => by
              have a1 := T.lo q hq
              have a2 := T.hi q hq
              rcases a1 with rfl | a1
              · rfl
              · rcases a2 with rfl | a2
                · unfold lexB at a1; omega
                · unfold lexB at a1 a2; omega
            have nd := T.nodup
            have str := T.strict
            match hG : s1.reverse ++ s2.reverse, l3 with
            | u :: v :: w :: r, _ =>
              rw [hG] at nd str
              have su := T.sub
              rw [hG] at su
              rcases str (u, v) (by simp [fed]) w (by simp) with e | e | e
              · simp only at e
                rw [e] at nd
                simp at nd
              · simp only at e
                rw [e] at nd
                simp at nd
              · unfold cross at e
                simp only at e
                rw [all0 u (su u (by simp)), all0 v (su v (by simp)), all0 w (su w (by simp))] at e
                simp at e
        constructor
        · obtain ⟨e, he, o1, o2, o3⟩ := Two.over (fun q => q.1) X (M :: s1) (C1.dec.imp_of_mem fun ha hb z => mono _ (C1.sub _ hb) _ (C1.sub _ ha) z) M rfl m T.l1 lt x1 x2
          have he' := (T.edges e).mpr (.inl he)
          exact (sL_near ev st he' (h e he')).1 o1 o2 o3
        · obtain ⟨e, he, o1, o2, o3⟩ := Two.over (fun q => -q.1) (-X) (m :: s2) (C2.dec.imp_of_mem fun ha hb z => by
            rw [kap_neg, kap_neg] at z
            have := mono _ (C2.sub _ ha) _ (C2.sub _ hb) (by omega)
            omega) m rfl M T.l2 (by omega) (by omega) (by omega)
          have he' := (T.edges e).mpr (.inr he)
          exact (sL_near ev st he' (h e he')).2 (by omega) (by omega) (by omega)
  · -- none, or one
    cases line with
    | nil =>
      constructor
      · rintro ⟨⟨y1, h1, _⟩, _⟩
        cases h1
      · rintro (h | ⟨a, b, e, _⟩ | h)
        · cases h.2
        · cases e
        · exact absurd h.1 (by simp [polyL])
    | cons a r =>
      obtain rfl : r = [] := by
        cases r with
        | nil => rfl
        | cons _ _ => simp at h2
      have eG : polyL [a] = [a] := rfl
      rw [eG] at ev ⊢
      have ee : edg [a] = [(a, a)] := rfl
      unfold hasP liesP
      rw [ee]
      have mem : ∀ z, z ∈ sL [(a, a)] p.1 ↔ a.1 = p.1 ∧ z = a.2 := fun z => by
        rw [mem_sL]
        constructor
        · rintro ⟨e, he, h | h⟩
          · rw [List.mem_singleton.mp he] at h
            exact h
          · rw [List.mem_singleton.mp he] at h
            have := neg_prod h.1
            simp only at this
            omega
        · intro h
          exact ⟨(a, a), by simp, .inl h⟩
      simp only [mem]
      constructor
      · rintro ⟨⟨y1, h1, q1⟩, y2, h2, q2⟩
        have e : p = a := Prod.ext h1.1.symm (by omega)
        exact .inl ⟨by simp, by simp [e]⟩
      · rintro (h | ⟨x, y, e, _⟩ | h)
        · have := List.mem_singleton.mp h.2
          subst this
          exact ⟨⟨p.2, ⟨rfl, rfl⟩, Int.le_refl _⟩, p.2, ⟨rfl, rfl⟩, Int.le_refl _⟩
        · simp at e
        · exact absurd h.1 (by simp)

--part
/-! ### the program's way: points over one denominator -/
def ptD (D : Int) (p : Pt) : PyData := .tuple [frD (qF D p.1), frD (qF D p.2)]
def OkP (p : Pt) : Prop := Bd 60 p.1 ∧ Bd 60 p.2
theorem pt_0 (D : Int) (p : Pt) : ixD (ptD D p) (.int 0) = some (frD (qF D p.1)) := rfl
theorem pt_1 (D : Int) (p : Pt) : ixD (ptD D p) (.int 1) = some (frD (qF D p.2)) := rfl
theorem atm1 {α : Type} (A : List α) (b : α) : atI (A ++ [b]) (-1) = some b := atI_last A b
theorem atm2 {α : Type} (A : List α) (a b : α) : atI (A ++ [a, b]) (-2) = some a := by
  have e : ixN (A ++ [a, b]).length (-2) = some A.length := by
    unfold ixN
    have l : (A ++ [a, b]).length = A.length + 2 := by simp
    rw [l, if_neg (by omega)]
    rw [if_pos (by omega)]
    congr 1
    omega
  unfold atI
  rw [e]
  simp
section
variable {D : Int} (h0 : 0 < D) (hD : Bd 60 D)
include h0 hD
theorem qfr {x : Int} (h : Bd 60 x) : Fr 60 (qF D x) := qF_fr h0 h hD
theorem dif_at (n : Nat) {x y : Int} (hx : Bd 60 x) (hy : Bd 60 y) : runP cons FU defs (n + 3) 3 [.v (frD (qF D x)), .v (frD (qF D y))] = some (.v (frD (qF D (x - y))), []) := by
  have a := qfr h0 hD hx
  have b := qfr h0 hD hy
  have q := lessened_at n (k := 60) a.b b.b (by decide) a.pos b.pos
  rw [qF_sub h0] at q
  exact q
theorem dfr {x y : Int} (hx : Bd 60 x) (hy : Bd 60 y) : Fr 61 (qF D (x - y)) := qF_fr h0 (hx.sub hy) (hD.mono (by decide))
theorem prod_at (n : Nat) {x y z w : Int} (hx : Bd 60 x) (hy : Bd 60 y) (hz : Bd 60 z) (hw : Bd 60 w) : runP cons FU defs (n + 3) 4 [.v (frD (qF D (x - y))), .v (frD (qF D (z - w)))] = some (.v (frD (qF (D * D) ((x - y) * (z - w)))), []) := by
  have a := dfr h0 hD hx hy
  have b := dfr h0 hD hz hw
  have q := times_at n (k := 61) a.b b.b (by decide) a.pos b.pos
  rw [qF_mul h0 h0] at q
  exact q
theorem turnleft_at (n : Nat) {a b c : Pt} (ha : OkP a) (hb : OkP b) (hc : OkP c) : runP cons FU defs (n + 4) 11 [.v (ptD D a), .v (ptD D b), .v (ptD D c)] = some (.v (.bool (decide (0 < cross a b c))), []) := by
  have d1 := dif_at h0 hD n hb.1 ha.1
  have d2 := dif_at h0 hD n hc.2 ha.2
  have d3 := dif_at h0 hD n hb.2 ha.2
  have d4 := dif_at h0 hD n hc.1 ha.1
  have p1 := prod_at h0 hD n hb.1 ha.1 hc.2 ha.2
  have p2 := prod_at h0 hD n hb.2 ha.2 hc.1 ha.1
  have dd : 0 < D * D := Int.mul_pos h0 h0
  have bd : Bd 122 (D * D) := (hD.mul hD).mono (by decide)
  have f1 : Fr 122 (qF (D * D) ((b.1 - a.1) * (c.2 - a.2))) := qF_fr dd ((hb.1.sub ha.1).mul (hc.2.sub ha.2)) bd
  have f2 : Fr 122 (qF (D * D) ((b.2 - a.2) * (c.1 - a.1))) := qF_fr dd ((hb.2.sub ha.2).mul (hc.1.sub ha.1)) bd
  have q := compared_at (n + 2) (k := 122) f1.b f2.b (by decide)
  rw [qF_cmp dd] at q
  have e : cross a b c = (b.1 - a.1) * (c.2 - a.2) - (b.2 - a.2) * (c.1 - a.1) := rfl
  rw [e]
  rw [at_def qd11 rfl rfl]
  have a0 := pt_0 D a
  have a1 := pt_1 D a
  have b0 := pt_0 D b
  have b1 := pt_1 D b
  have c0 := pt_0 D c
  have c1 := pt_1 D c
  generalize ptD D a = A at *
  generalize ptD D b = B at *
  generalize ptD D c = C at *
  generalize (b.1 - a.1) * (c.2 - a.2) = u at *
  generalize (b.2 - a.2) * (c.1 - a.1) = v at *
  generalize frD (qF D a.1) = A0 at *
  generalize frD (qF D a.2) = A1 at *
  generalize frD (qF D b.1) = B0 at *
  generalize frD (qF D b.2) = B1 at *
  generalize frD (qF D c.1) = C0 at *
  generalize frD (qF D c.2) = C1 at *
  generalize frD (qF D (b.1 - a.1)) = X1 at *
  generalize frD (qF D (b.2 - a.2)) = X2 at *
  generalize frD (qF D (c.1 - a.1)) = X3 at *
  generalize frD (qF D (c.2 - a.2)) = X4 at *
  by_cases z : v < u
  · rw [if_pos z] at q
    have z2 : decide (0 < u - v) = true := decide_eq_true (by omega)
    rw [z2]
    generalize frD (qF (D * D) u) = U at *
    generalize frD (qF (D * D) v) = V at *
    simp [qd11, qb11, startE_eq, List.replicate_succ, a0, a1, b0, b1, c0, c1, d1, d2, d3, d4, p1, p2, q]
  · rw [if_neg z] at q
    have z2 : decide (0 < u - v) = false := decide_eq_false (by omega)
    by_cases y : u < v
    · rw [if_pos y] at q
      rw [z2]
      generalize frD (qF (D * D) u) = U at *
      generalize frD (qF (D * D) v) = V at *
      simp [qd11, qb11, startE_eq, List.replicate_succ, a0, a1, b0, b1, c0, c1, d1, d2, d3, d4, p1, p2, q]
    · rw [if_neg y] at q
      rw [z2]
      generalize frD (qF (D * D) u) = U at *
      generalize frD (qF (D * D) v) = V at *
      simp [qd11, qb11, startE_eq, List.replicate_succ, a0, a1, b0, b1, c0, c1, d1, d2, d3, d4, p1, p2, q]
/-- the half way round -/
theorem half_at (n : Nat) (l : List Pt) (hl : l.length ≤ 1000) (ho : ∀ p ∈ l, OkP p) : runP cons FU defs (n + 5) 12 [.v (.list (l.map (ptD D)))] = some (.o ((half l).reverse.map (ptD D)), []) := by
  have fu : 2000 < FU := Nat.lt_of_lt_of_le (show 2000 < 10 ^ 4 by decide) (Nat.pow_le_pow_right (by decide) (by decide))
  have f := forD_fold (body := fun d en => (en.put 2 (.v d)).bind fun en1 => (runB (runP cons FU defs (n + 4)) cons FU qb12_1 en1).bind fun f => some (wipF [0, 2] f)) (fun s : List Pt => [none, some (.o (s.reverse.map (ptD D))), none]) (ptD D) (fun s c => push s c)
    (fun s r => (∀ p ∈ s, OkP p) ∧ (∀ p ∈ r, OkP p) ∧ s.length + r.length ≤ 1000) l [] ⟨by simp, ho, by simpa using hl⟩ (by
      rintro s c r ⟨k1, k2, k3⟩
      have hc := k2 c (by simp)
      simp only [List.length_cons] at k3
      obtain ⟨s', e, ⟨i0, i1⟩, ht⟩ := whileD_ex (σ := List Pt) (fun s => [none, some (.o (s.reverse.map (ptD D))), some (.v (ptD D c))])
        (fun s' => s' <:+ s ∧ pops s' c = pops s c) (fun s' => match s' with
          | b :: a :: _ => !decide (0 < cross a b c)
          | _ => false) (fun s' => s'.length)
        (c := fun en => runT (runP cons FU defs (n + 4)) cons qt12_0 en) (body := fun en => (runB (runP cons FU defs (n + 4)) cons FU qb12_0 en).bind fun f => some (wipF [0] f))
        (fun s' ⟨i0, i1⟩ => by
          match s', i0 with
          | [], _ =>
            simp [qt12_0]
          | [a], _ =>
            simp [qt12_0]
          | b :: a :: q, i0 =>
            have q1 := turnleft_at h0 hD n (k1 a (i0.subset (by simp))) (k1 b (i0.subset (by simp))) hc
            have e1 : (b :: a :: q).reverse.map (ptD D) = q.reverse.map (ptD D) ++ [ptD D a, ptD D b] := by simp
            have m1 : atI (q.reverse.map (ptD D) ++ [ptD D a, ptD D b]) (-1) = some (ptD D b) := by
              have := atm1 (q.reverse.map (ptD D) ++ [ptD D a]) (ptD D b)
              simpa using this
            have m2 := atm2 (q.reverse.map (ptD D)) (ptD D a) (ptD D b)
            have ln : (1 : Int) < ((q.reverse.map (ptD D) ++ [ptD D a, ptD D b]).length : Int) := by
              rw [List.length_append]
              simp only [List.length_cons, List.length_nil]
              omega
            rw [e1]
            generalize q.reverse.map (ptD D) ++ [ptD D a, ptD D b] = L at *
            generalize ptD D a = A at *
            generalize ptD D b = B at *
            generalize ptD D c = C at *
            cases hz : decide (0 < cross a b c) with
            | true =>
              rw [hz] at q1
              simp [qt12_0, ln, m1, m2, q1]
              exact of_decide_eq_true hz
            | false =>
              rw [hz] at q1
              simp [qt12_0, ln, m1, m2, q1]
              have := of_decide_eq_false hz
              omega) (fun s' ⟨i0, i1⟩ ht => by
          match s', i0, i1, ht with
          | [], _, _, ht => cases ht
          | [_], _, _, ht => cases ht
          | b :: a :: q, i0, i1, ht =>
            refine ⟨a :: q, ?_, ⟨(List.suffix_cons _ _).trans i0, ?_⟩, by simp⟩
            · have e1 : (b :: a :: q).reverse.map (ptD D) = (a :: q).reverse.map (ptD D) ++ [ptD D b] := by simp
              rw [e1]
              generalize (a :: q).reverse.map (ptD D) = L at *
              have gl : (L ++ [ptD D b])[(L ++ [ptD D b]).length - 1]? = some (ptD D b) := by simp
              have dl : (L ++ [ptD D b]).dropLast = L := by simp
              generalize ptD D b = B at *
              generalize L ++ [B] = L1 at *
              simp [qb12_0, runE_mt, mtD, gl, dl]
            · rw [← i1]
              have z : ¬ 0 < cross a b c := by
                have : (!decide (0 < cross a b c)) = true := ht
                simpa using this
              conv => rhs; unfold pops
              rw [if_neg z]) FU s ⟨List.suffix_refl _, rfl⟩ (by show s.length < FU; omega)
      have es : s' = pops s c := by
        rw [← i1]
        match s', ht with
        | [], _ => rfl
        | [_], _ => rfl
        | b :: a :: q, ht =>
          have z : 0 < cross a b c := by
            have : (!decide (0 < cross a b c)) = false := ht
            simpa using this
          unfold pops
          rw [if_pos z]
      have ls := i0.length_le
      refine ⟨?_, fun p hp => ?_, fun x hx => k2 x (List.mem_cons_of_mem _ hx), ?_⟩
      · have e2 : (push s c).reverse.map (ptD D) = s'.reverse.map (ptD D) ++ [ptD D c] := by
          unfold push
          rw [← es]
          simp
        rw [e2]
        have zl : (s'.reverse.map (ptD D)).length < sizeLine := by
          rw [List.length_map, List.length_reverse, line_is]
          omega
        generalize s'.reverse.map (ptD D) = L2 at *
        generalize s.reverse.map (ptD D) = L1 at *
        generalize ptD D c = C at *
        simp [qb12_1, runS_wh, e, runE_mt, mtD, zl]
      · unfold push at hp
        rcases List.mem_cons.mp hp with rfl | hp
        · exact hc
        · exact k1 p ((pops_suffix s c).subset hp)
      · unfold push
        rw [← es, List.length_cons]
        omega)
  have f : forD _ (l.map (ptD D)) [none, some (.o []), none] = some (.nx [none, some (.o ((half l).reverse.map (ptD D))), none]) := f
  rw [at_def qd12 rfl rfl]
  generalize (half l).reverse.map (ptD D) = R at *
  generalize l.map (ptD D) = X at *
  simp [qd12, qb12, startE_eq, List.replicate_succ, runS_for, f]
end

--part
instance (a b : Pt) : Decidable (lexB a b) := by unfold lexB; infer_instance
theorem pt_shp (D : Int) (p : Pt) : SeqAt.shaped (ptD D p) = true := by
  simp [SeqAt.shaped, ptD, frD, PyData.canLay0, PyData.canLayAll0, PyData.depth, PyData.depthAll]
theorem pt_eqv {D : Int} (h0 : 0 < D) (p q : Pt) : PyData.eqv (ptD D p) (ptD D q) = decide (p = q) := by
  have e : ∀ x y : Int, PyData.eqv (frD (qF D x)) (frD (qF D y)) = decide (x = y) := fun x y => by
    have h := eqv_ints [(qF D x).1, (qF D x).2] [(qF D y).1, (qF D y).2]
    have : PyData.eqv (frD (qF D x)) (frD (qF D y)) = PyData.eqvAll ([(qF D x).1, (qF D x).2].map .int) ([(qF D y).1, (qF D y).2].map .int) := rfl
    rw [this, h]
    by_cases z : x = y
    · subst z
      simp
    · rw [decide_eq_false z, decide_eq_false]
      intro w
      simp only [List.cons.injEq, and_true] at w
      exact z ((qF_inj h0 x y).mp (Prod.ext w.1 w.2))
  have : PyData.eqv (ptD D p) (ptD D q) = (PyData.eqv (frD (qF D p.1)) (frD (qF D q.1)) && (PyData.eqv (frD (qF D p.2)) (frD (qF D q.2)) && true)) := rfl
  rw [this, e, e]
  by_cases z : p = q
  · subst z
    simp
  · rw [decide_eq_false z]
    by_cases x : p.1 = q.1
    · have : p.2 ≠ q.2 := fun y => z (Prod.ext x y)
      simp [this]
    · simp [x]
theorem pt_ne {D : Int} (h0 : 0 < D) (p q : Pt) : cmpD .NotEq (ptD D p) (ptD D q) = some (!decide (p = q)) := by
  rw [ne_any (pt_shp D p) (pt_shp D q), pt_eqv h0]
theorem pt_eq {D : Int} (h0 : 0 < D) (p q : Pt) : cmpD .Eq (ptD D p) (ptD D q) = some (decide (p = q)) := by
  rw [eq_any (pt_shp D p) (pt_shp D q), pt_eqv h0]
section
variable {D : Int} (h0 : 0 < D) (hD : Bd 60 D)
include h0 hD
theorem comp_at (n : Nat) {x y : Int} (hx : Bd 60 x) (hy : Bd 60 y) : runP cons FU defs (n + 1) 6 [.v (frD (qF D x)), .v (frD (qF D y))] = some (.v (.int (if y < x then 1 else if x < y then -1 else 0)), []) := by
  have q := compared_at n (k := 60) (qfr h0 hD hx).b (qfr h0 hD hy).b (by decide)
  rw [qF_cmp h0] at q
  exact q
theorem compc_at (n : Nat) {a b : Pt} (ha : OkP a) (hb : OkP b) : ∃ s : Int, runP cons FU defs (n + 2) 9 [.v (ptD D a), .v (ptD D b)] = some (.v (.int s), []) ∧ (0 < s ↔ lexB b a) := by
  have q1 := comp_at h0 hD n ha.1 hb.1
  have q2 := comp_at h0 hD n ha.2 hb.2
  have a0 := pt_0 D a
  have a1 := pt_1 D a
  have b0 := pt_0 D b
  have b1 := pt_1 D b
  rw [at_def qd9 rfl rfl]
  generalize ptD D a = A at *
  generalize ptD D b = B at *
  generalize frD (qF D a.1) = A0 at *
  generalize frD (qF D a.2) = A1 at *
  generalize frD (qF D b.1) = B0 at *
  generalize frD (qF D b.2) = B1 at *
  unfold lexB
  by_cases c1 : b.1 < a.1
  · rw [if_pos c1] at q1
    refine ⟨1, ?_, by omega⟩
    simp [qd9, qb9, startE_eq, List.replicate_succ, a0, a1, b0, b1, q1]
  · rw [if_neg c1] at q1
    by_cases c2 : a.1 < b.1
    · rw [if_pos c2] at q1
      refine ⟨-1, ?_, by omega⟩
      simp [qd9, qb9, startE_eq, List.replicate_succ, a0, a1, b0, b1, q1]
    · rw [if_neg c2] at q1
      obtain ⟨v, hv, iv⟩ : ∃ v : Int, v = (if b.2 < a.2 then 1 else if a.2 < b.2 then -1 else 0) ∧ (0 < v ↔ b.2 < a.2) := ⟨_, rfl, by by_cases x : b.2 < a.2 <;> by_cases y : a.2 < b.2 <;> simp [x, y]⟩
      rw [← hv] at q2
      refine ⟨v, ?_, by omega⟩
      simp [qd9, qb9, startE_eq, List.replicate_succ, a0, a1, b0, b1, q1, q2]
theorem inorder_at (n : Nat) (g : PyData) (cs : List Pt) (hg : g = .list (cs.map (ptD D)) ∨ g = .tuple (cs.map (ptD D))) (ho : ∀ p ∈ cs, OkP p) (hl : cs.length ≤ 1000) :
    ∃ line : List Pt, runP cons FU defs (n + 3) 10 [.v g] = some (.o (line.map (ptD D)), []) ∧ line.Pairwise lexB ∧ (∀ p, p ∈ line ↔ p ∈ cs) ∧ line.length ≤ cs.length := by
  have fu : 2000 < FU := Nat.lt_of_lt_of_le (show 2000 < 10 ^ 4 by decide) (Nat.pow_le_pow_right (by decide) (by decide))
  obtain ⟨e, f, line, rfl, l1, l2, l3⟩ := forD_keep (body := fun d en => (En.put en 2 (.v d)).bind fun en1 => (runB (runP cons FU defs (n + 2)) cons FU qb10_1 en1).bind fun f => some (wipF [0, 2, 3] f))
    (fun i e => ∃ L : List Pt, e = [none, some (.o (L.map (ptD D))), none, none] ∧ L.Pairwise lexB ∧ (∀ p, p ∈ L ↔ p ∈ cs.take i) ∧ L.length ≤ i) (cs.map (ptD D)) 0 [none, some (.o []), none, none] ⟨[], rfl, .nil, by simp, by simp⟩ (by
      rintro i hi e ⟨L, rfl, l1, l2, l3⟩
      rw [Nat.zero_add] at l2 l3 ⊢
      have hi' : i < cs.length := by simpa using hi
      rw [List.getElem_map]
      have hc := ho _ (List.getElem_mem hi')
      have tk : cs.take (i + 1) = cs.take i ++ [cs[i]] := by rw [List.take_succ, List.getElem?_eq_getElem hi']; rfl
      rw [tk]
      generalize cs[i] = c at *
      have ok : ∀ p ∈ L, OkP p := fun p hp => ho p (List.mem_of_mem_take ((l2 p).mp hp))
      have gd : ∀ j, j < L.length → atI (L.map (ptD D)) ((j : Nat) : Int) = some (ptD D (L.getD j (0, 0))) ∧ L.getD j (0, 0) ∈ L := fun j hj => by
        have e : L.getD j (0, 0) = L[j] := by simp [List.getD_eq_getElem?_getD, List.getElem?_eq_getElem hj]
        rw [e]
        refine ⟨atI_nat ?_, List.getElem_mem hj⟩
        rw [List.getElem?_map, List.getElem?_eq_getElem hj]
        rfl
      obtain ⟨s, e, ⟨i0, i1⟩, ht⟩ := whileD_ex (σ := Nat) (fun s => [none, some (.o (L.map (ptD D))), some (.v (ptD D c)), some (.v (.int s))])
        (fun s => s ≤ L.length ∧ ∀ j, s ≤ j → j < L.length → lexB c (L.getD j (0, 0))) (fun s => decide (0 < s) && decide (lexB c (L.getD (s - 1) (0, 0)))) (fun s => s)
        (c := fun en => runT (runP cons FU defs (n + 2)) cons qt10_0 en) (body := fun en => (runB (runP cons FU defs (n + 2)) cons FU qb10_0 en).bind fun f => some (wipF [0] f))
        (fun s ⟨s0, s1⟩ => by
          by_cases hs : 0 < s
          · obtain ⟨j, rfl⟩ : ∃ j, s = j + 1 := ⟨s - 1, by omega⟩
            obtain ⟨a, am⟩ := gd j (by omega)
            obtain ⟨v, q, iv⟩ := compc_at h0 hD n (ok _ am) hc
            simp only [Nat.add_sub_cancel]
            have hj : (0 : Int) < (j : Int) + 1 := by omega
            generalize ptD D c = C at *
            generalize L.getD j (0, 0) = y at *
            generalize L.map (ptD D) = L' at *
            simp only [Int.natCast_add, Int.cast_ofNat_Int] at ⊢
            by_cases hv : 0 < v
            · have := iv.mp hv
              simp [qt10_0, a, q, hv, hj, this]
            · have : ¬ lexB c y := fun z => hv (iv.mpr z)
              simp [qt10_0, a, q, hv, hj, this]
          · obtain rfl : s = 0 := by omega
            simp [qt10_0]) (fun s ⟨s0, s1⟩ ht => by
          rw [Bool.and_eq_true] at ht
          have t1 := of_decide_eq_true ht.1
          have t2 := of_decide_eq_true ht.2
          refine ⟨s - 1, ?_, ⟨by omega, fun j a b => ?_⟩, by omega⟩
          · rw [show ((s - 1 : Nat) : Int) = (s : Int) - 1 by omega]
            generalize L.map (ptD D) = L' at *
            simp [qb10_0, runS_aug, augD]
          · by_cases hj : j = s - 1
            · rw [hj]; exact t2
            · exact s1 j (by omega) b) FU L.length ⟨Nat.le_refl _, fun j a b => by omega⟩ (by show L.length < FU; omega)
      have dr : ∀ x ∈ L.drop s, lexB c x := fun x hx => by
        obtain ⟨j, hj, rfl⟩ := List.getElem_of_mem hx
        rw [List.getElem_drop]
        rw [List.length_drop] at hj
        have := i1 (s + j) (by omega) (by omega)
        simpa [List.getD_eq_getElem?_getD, List.getElem?_eq_getElem (show s + j < L.length by omega)] using this
      have zl : (L.map (ptD D)).length < sizeLine := by rw [List.length_map, line_is]; omega
      have lm : (L.map (ptD D)).length = L.length := List.length_map _
      have zL : L.length < sizeLine := by rw [line_is]; omega
      have td := List.take_append_drop s L
      by_cases hs : s = 0
      · subst hs
        simp only [List.drop_zero] at dr
        refine ⟨_, ?_, c :: L, rfl, List.pairwise_cons.mpr ⟨dr, l1⟩, fun p => ?_, by simp; omega⟩
        · rw [List.map_cons]
          generalize ptD D c = C at *
          generalize L.map (ptD D) = L' at *
          simp [qb10_1, runS_wh, lm, e, runE_mt, mtD, zl, zL]
        · rw [List.mem_cons, List.mem_append, List.mem_singleton, l2]
          exact Or.comm
      · have hj : s - 1 < L.length := by omega
        obtain ⟨a, am⟩ := gd (s - 1) hj
        have nl : ¬ lexB c (L.getD (s - 1) (0, 0)) := by
          rw [Bool.and_eq_false_iff] at ht
          rcases ht with ht | ht
          · have := of_decide_eq_false ht
            omega
          · exact of_decide_eq_false ht
        have ne := pt_ne h0 (L.getD (s - 1) (0, 0)) c
        have s1 : ((s - 1 : Nat) : Int) = (s : Int) - 1 := by omega
        have s2 : ¬ (s : Int) = 0 := by omega
        rw [s1] at a
        by_cases hz : L.getD (s - 1) (0, 0) = c
        · refine ⟨_, ?_, L, rfl, l1, fun p => ?_, by omega⟩
          · rw [decide_eq_true hz] at ne
            generalize ptD D (L.getD (s - 1) (0, 0)) = Y at *
            generalize ptD D c = C at *
            generalize L.map (ptD D) = L' at *
            simp [qb10_1, runS_wh, lm, e, runE_mt, mtD, zl, a, ne, hs, s2]
          · rw [List.mem_append, List.mem_singleton, ← l2]
            constructor
            · exact .inl
            · rintro (h | rfl)
              · exact h
              · rw [← hz]
                exact am
        · have lc : lexB (L.getD (s - 1) (0, 0)) c := by
            rcases lex_tri (L.getD (s - 1) (0, 0)) c with w | w | w
            · exact absurd w hz
            · exact w
            · exact absurd w nl
          have tkl : ∀ x ∈ L.take s, lexB x c := fun x hx => by
            obtain ⟨j, hj2, rfl⟩ := List.getElem_of_mem hx
            rw [List.getElem_take]
            rw [List.length_take] at hj2
            have e1 : L.getD (s - 1) (0, 0) = L[s - 1] := by simp [List.getD_eq_getElem?_getD, List.getElem?_eq_getElem hj]
            rw [e1] at lc
            by_cases w : j = s - 1
            · subst w
              exact lc
            · exact lex_trans (List.pairwise_iff_getElem.mp l1 j (s - 1) (by omega) hj (by omega)) lc
          refine ⟨_, ?_, L.take s ++ c :: L.drop s, rfl, ?_, fun p => ?_, ?_⟩
          · rw [decide_eq_false hz] at ne
            have em : (L.take s ++ c :: L.drop s).map (ptD D) = (L.map (ptD D)).take s ++ ptD D c :: (L.map (ptD D)).drop s := by simp
            rw [em]
            generalize ptD D (L.getD (s - 1) (0, 0)) = Y at *
            generalize ptD D c = C at *
            generalize L.map (ptD D) = L' at *
            have s3 : (s : Int) ≤ (L'.length : Int) := by omega
            simp [qb10_1, runS_wh, lm, e, runE_mt, mtD, zl, zL, a, ne, hs, s2, i0]
          · have p2 := l1
            rw [← td] at p2
            have p3 := List.pairwise_append.mp p2
            rw [List.pairwise_append]
            refine ⟨p3.1, List.pairwise_cons.mpr ⟨dr, p3.2.1⟩, fun x hx y hy => ?_⟩
            rcases List.mem_cons.mp hy with rfl | hy
            · exact tkl x hx
            · exact p3.2.2 x hx y hy
          · rw [List.mem_append, List.mem_cons, List.mem_append, List.mem_singleton, ← l2]
            conv => rhs; rw [← td]
            rw [List.mem_append]
            constructor
            · rintro (h | h | h)
              · exact .inl (.inl h)
              · exact .inr h
              · exact .inl (.inr h)
            · rintro ((h | h) | h)
              · exact .inl h
              · exact .inr (.inr h)
              · exact .inr (.inl h)
          · have := congrArg List.length td
            simp only [List.length_append, List.length_cons] at this ⊢
            omega)
  rw [Nat.zero_add, List.length_map, List.take_length] at l2
  rw [Nat.zero_add, List.length_map] at l3
  refine ⟨line, ?_, l1, l2, l3⟩
  rw [at_def qd10 rfl rfl]
  generalize line.map (ptD D) = O at *
  generalize cs.map (ptD D) = X at *
  rcases hg with rfl | rfl <;> simp [qd10, qb10, startE_eq, List.replicate_succ, runS_for, f]
end

--part
theorem cutm1 {α : Type} (xs : List α) : cutL xs none (some (-1)) = xs.dropLast := by
  have e : cutL xs none (some (-1)) = (xs.drop 0).take ((-1 + (xs.length : Int)).toNat - 0) := rfl
  rw [e, List.dropLast_eq_take, List.drop_zero, Nat.sub_zero]
  congr 1
  omega
def cOf (sg X : Int) (e : Pt × Pt) : List Pt := (if 0 ≤ sg * (e.1.1 - X) then [e.1] else []) ++ (if (e.1.1 - X) * (e.2.1 - X) < 0 then [(X, yOn e.1 e.2 X)] else [])
theorem cOf_len (sg X : Int) (e : Pt × Pt) : (cOf sg X e).length ≤ 2 := by
  unfold cOf
  rw [List.length_append]
  split <;> split <;> simp
theorem edg_map (G : List Pt) : edg G = (List.range G.length).map fun k => (G.getD k (0, 0), G.getD ((k + 1) % G.length) (0, 0)) := by
  unfold edg
  rw [fed_map (0, 0)]
  cases G with
  | nil => rfl
  | cons m r =>
    have len : ((m :: r) ++ (m :: r).take 1).length - 1 = (m :: r).length := by simp
    rw [len]
    refine List.map_congr_left fun k hk => ?_
    have hk := List.mem_range.mp hk
    have t1 : (m :: r).take 1 = [m] := rfl
    rw [t1]
    refine Prod.ext ?_ ?_
    · simp only [List.getD_eq_getElem?_getD]
      rw [List.getElem?_append_left hk]
    · simp only [List.getD_eq_getElem?_getD]
      by_cases z : k + 1 < (m :: r).length
      · rw [List.getElem?_append_left z, Nat.mod_eq_of_lt z]
      · have e : k + 1 = (m :: r).length := by omega
        rw [e, Nat.mod_self, List.getElem?_append_right (Nat.le_refl _)]
        simp
theorem frac_part {D t Δ d w : Int} (h0 : 0 < D) (hΔ : Δ ≠ 0) (h : w * Δ = t * d) : mulF (divF (qF D t) (qF D Δ)) (qF D d) = qF D w := by
  have p0 := qF_pos h0 t
  have q0 := qF_pos h0 Δ
  have r0 := qF_pos h0 d
  have pc := qF_cross h0 t
  have qc := qF_cross h0 Δ
  have rc := qF_cross h0 d
  have q1 : (qF D Δ).1 ≠ 0 := fun z => by
    rw [z, Int.zero_mul] at qc
    rcases Int.mul_eq_zero.mp qc.symm with y | y
    · exact hΔ y
    · omega
  generalize qF D t = P at *
  generalize qF D Δ = Q at *
  generalize qF D d = r at *
  have den : P.2 * Q.1 ≠ 0 := Int.mul_ne_zero (by omega) q1
  have Rr : Red (divF P Q) := red_red den
  have Rc : (divF P Q).1 * (P.2 * Q.1) = P.1 * Q.2 * (divF P Q).2 := red_cross den
  have R0 := Rr.pos
  generalize divF P Q = R at *
  have e1 : R.1 * Δ = t * R.2 := by
    have : P.2 * Q.2 * D * (R.1 * Δ) = P.2 * Q.2 * D * (t * R.2) := by
      calc P.2 * Q.2 * D * (R.1 * Δ) = D * (R.1 * P.2) * (Δ * Q.2) := by grind
        _ = D * (R.1 * P.2) * (Q.1 * D) := by rw [qc]
        _ = D * D * (R.1 * (P.2 * Q.1)) := by grind
        _ = D * D * (P.1 * Q.2 * R.2) := by rw [Rc]
        _ = (P.1 * D) * (D * Q.2 * R.2) := by grind
        _ = (t * P.2) * (D * Q.2 * R.2) := by rw [pc]
        _ = P.2 * Q.2 * D * (t * R.2) := by grind
    exact Int.eq_of_mul_eq_mul_left (Int.mul_ne_zero (Int.mul_ne_zero (by omega) (by omega)) (by omega)) this
  have dn : R.2 * r.2 ≠ 0 := Int.mul_ne_zero (by omega) (by omega)
  have Mr : Red (mulF R r) := red_red dn
  have Mc : (mulF R r).1 * (R.2 * r.2) = R.1 * r.1 * (mulF R r).2 := red_cross dn
  refine qF_eq h0 Mr ?_
  generalize mulF R r = p at *
  have : R.2 * r.2 * Δ * (p.1 * D) = R.2 * r.2 * Δ * (w * p.2) := by
    calc R.2 * r.2 * Δ * (p.1 * D) = Δ * D * (p.1 * (R.2 * r.2)) := by grind
      _ = Δ * D * (R.1 * r.1 * p.2) := by rw [Mc]
      _ = (R.1 * Δ) * (r.1 * D) * p.2 := by grind
      _ = (t * R.2) * (d * r.2) * p.2 := by rw [e1, rc]
      _ = (t * d) * (R.2 * r.2 * p.2) := by grind
      _ = (w * Δ) * (R.2 * r.2 * p.2) := by rw [h]
      _ = R.2 * r.2 * Δ * (w * p.2) := by grind
  exact Int.eq_of_mul_eq_mul_left (Int.mul_ne_zero dn hΔ) this
section
variable {D : Int} (h0 : 0 < D) (hD : Bd 60 D)
include h0 hD
theorem polyof_at (n : Nat) (g : PyData) (cs : List Pt) (hg : g = .list (cs.map (ptD D)) ∨ g = .tuple (cs.map (ptD D))) (ho : ∀ p ∈ cs, OkP p) (hl : cs.length ≤ 1000) :
    ∃ line : List Pt, runP cons FU defs (n + 6) 13 [.v g] = some (.v (.tuple ((polyL line).map (ptD D))), []) ∧ line.Pairwise lexB ∧ (∀ p, p ∈ line ↔ p ∈ cs) ∧ line.length ≤ cs.length := by
  obtain ⟨line, q, l1, l2, l3⟩ := inorder_at h0 hD (n + 2) g cs hg ho hl
  refine ⟨line, ?_, l1, l2, l3⟩
  have ok : ∀ p ∈ line, OkP p := fun p hp => ho p ((l2 p).mp hp)
  have h1 := half_at h0 hD n line (by omega) ok
  have h2 := half_at h0 hD n line.reverse (by rw [List.length_reverse]; omega) (fun p hp => ok p (List.mem_reverse.mp hp))
  have rv : (line.map (ptD D)).reverse = line.reverse.map (ptD D) := List.map_reverse.symm
  have lm : (line.map (ptD D)).length = line.length := List.length_map _
  rw [at_def qd13 rfl rfl]
  unfold polyL
  by_cases c : line.length < 3
  · rw [if_pos c]
    have c' : (line.length : Int) < 3 := by omega
    generalize line.map (ptD D) = X at *
    simp [qd13, qb13, startE_eq, List.replicate_succ, q, lm, c, c']
  · rw [if_neg c]
    have c' : ¬ (line.length : Int) < 3 := by omega
    have e1 : (((half line).reverse.map (ptD D)).dropLast ++ ((half line.reverse).reverse.map (ptD D)).dropLast) = ((half line).reverse.dropLast ++ (half line.reverse).reverse.dropLast).map (ptD D) := by
      rw [List.map_append, List.map_dropLast, List.map_dropLast]
    have z : ((half line).reverse.map (ptD D)).dropLast.length + ((half line.reverse).reverse.map (ptD D)).dropLast.length ≤ sizeLine := by
      have key : ∀ (l s : List Pt), (l.foldl push s).length ≤ s.length + l.length := by
        intro l
        induction l with
        | nil => intro s; simp
        | cons c r ih =>
          intro s
          have := ih (push s c)
          have p := (pops_suffix s c).length_le
          rw [List.foldl_cons]
          unfold push at this ⊢
          simp only [List.length_cons] at this ⊢
          omega
      have k1 : (half line).length ≤ line.length := by
        have := key line []
        simpa [half] using this
      have k2 : (half line.reverse).length ≤ line.length := by
        have := key line.reverse []
        simpa [half] using this
      simp only [List.length_dropLast, List.length_map, List.length_reverse]
      rw [line_is]
      omega
    rw [← e1]
    rw [← rv] at h2
    have ad : binD .Add (.list ((half line).reverse.map (ptD D)).dropLast) (.list ((half line.reverse).reverse.map (ptD D)).dropLast) = some (.o (((half line).reverse.map (ptD D)).dropLast ++ ((half line.reverse).reverse.map (ptD D)).dropLast)) := if_pos z
    generalize (half line).reverse.map (ptD D) = H1 at *
    generalize (half line.reverse).reverse.map (ptD D) = H2 at *
    generalize line.map (ptD D) = X at *
    simp [qd13, qb13, startE_eq, List.replicate_succ, q, lm, c, c', h1, h2, cutm1, ad]
theorem crossing_at (n : Nat) {a b : Pt} {X : Int} (ha : OkP a) (hb : OkP b) (hX : Bd 60 X) (hn : (a.1 - X) * (b.1 - X) < 0) (ev : cross a b (X, yOn a b X) = 0) : runP cons FU defs (n + 4) 14 [.v (ptD D a), .v (ptD D b), .v (.int 0), .v (frD (qF D X))] = some (.v (ptD D (X, yOn a b X)), []) := by
  have np := neg_prod hn
  have hΔ : b.1 - a.1 ≠ 0 := by omega
  have d1 := dif_at h0 hD n hX ha.1
  have d2 := dif_at h0 hD n hb.1 ha.1
  have d3 := dif_at h0 hD n hb.2 ha.2
  have f1 := dfr h0 hD hX ha.1
  have f2 := dfr h0 hD hb.1 ha.1
  have f3 := dfr h0 hD hb.2 ha.2
  have n2 : (qF D (b.1 - a.1)).1 ≠ 0 := fun z => by
    have qc := qF_cross h0 (b.1 - a.1)
    rw [z, Int.zero_mul] at qc
    rcases Int.mul_eq_zero.mp qc.symm with y | y
    · exact hΔ y
    · have := qF_pos h0 (b.1 - a.1)
      omega
  have o := over_at n (k := 61) f1.b f2.b (by decide) f1.pos n2
  have den : (qF D (X - a.1)).2 * (qF D (b.1 - a.1)).1 ≠ 0 := Int.mul_ne_zero (by have := f1.pos; omega) n2
  have fR : Fr 122 (divF (qF D (X - a.1)) (qF D (b.1 - a.1))) := Fr.red den (f1.b.a.mul f2.b.b) (f1.b.b.mul f2.b.a)
  have m0 := frac_part h0 hΔ (show (X - a.1) * (b.1 - a.1) = (X - a.1) * (b.1 - a.1) from rfl)
  have ey : (yOn a b X - a.2) * (b.1 - a.1) = (X - a.1) * (b.2 - a.2) := by
    unfold cross at ev
    simp only at ev
    grind
  have m1 := frac_part h0 hΔ ey
  have t0 := times_at n (k := 122) fR.b (f2.b.mono (by decide)) (by decide) fR.pos f2.pos
  have t1 := times_at n (k := 122) fR.b (f3.b.mono (by decide)) (by decide) fR.pos f3.pos
  have g0 := fR.mul f2
  have g1 := fR.mul f3
  have a0 := added_at n (k := 183) ((qfr h0 hD ha.1).b.mono (by decide)) g0.b (by decide) (qfr h0 hD ha.1).pos g0.pos
  have a1 := added_at n (k := 183) ((qfr h0 hD ha.2).b.mono (by decide)) g1.b (by decide) (qfr h0 hD ha.2).pos g1.pos
  rw [m0] at t0 a0
  rw [m1] at t1 a1
  rw [qF_add h0, show a.1 + (X - a.1) = X by omega] at a0
  rw [qF_add h0, show a.2 + (yOn a b X - a.2) = yOn a b X by omega] at a1
  rw [at_def qd14 rfl rfl]
  have i0 := pt_0 D a
  have i1 := pt_0 D b
  have cm := compD_mapF (turn := lcTurn (runP cons FU defs (n + 3)) cons [("mine", 5), ("its", 6)] (.t (.cons (.n 5) (.cons (.n 6) .nil))) .yes (.call 2 (.cons (.x 5) (.cons (.call 4 (.cons (.x 4) (.cons (.call 3 (.cons (.x 6) (.cons (.x 5) .nil))) .nil))) .nil)))) (fun k : Bool => if k = true then PyData.tuple [frD (qF D a.1), frD (qF D b.1)] else PyData.tuple [frD (qF D a.2), frD (qF D b.2)]) (fun k => if k = true then frD (qF D X) else frD (qF D (yOn a b X)))
    [some (.v (ptD D a)), some (.v (ptD D b)), some (.v (.int 0)), some (.v (frD (qF D X))), some (.v (frD (divF (qF D (X - a.1)) (qF D (b.1 - a.1))))), none, none] [true, false] (fun k _ => by
      generalize frD (divF (qF D (X - a.1)) (qF D (b.1 - a.1))) = R at *
      generalize ptD D a = A at *
      generalize ptD D b = B at *
      generalize frD (qF D X) = XX at *
      generalize frD (qF D (yOn a b X)) = YY at *
      generalize frD (qF D a.1) = A0 at *
      generalize frD (qF D a.2) = A1 at *
      generalize frD (qF D b.1) = B0 at *
      generalize frD (qF D b.2) = B1 at *
      cases k with
      | true => simp [lcTurn, wipeE, d2, t0, a0]
      | false => simp [lcTurn, wipeE, d3, t1, a1])
  have zz : zipD [frD (qF D a.1), frD (qF D a.2)] [frD (qF D b.1), frD (qF D b.2)] = [true, false].map (fun k : Bool => if k = true then PyData.tuple [frD (qF D a.1), frD (qF D b.1)] else PyData.tuple [frD (qF D a.2), frD (qF D b.2)]) := rfl
  rw [← zz] at cm
  have em : [true, false].map (fun k => if k = true then frD (qF D X) else frD (qF D (yOn a b X))) = [frD (qF D X), frD (qF D (yOn a b X))] := rfl
  rw [em] at cm
  have sa : seqD (ptD D a) = some [frD (qF D a.1), frD (qF D a.2)] := rfl
  have sb : seqD (ptD D b) = some [frD (qF D b.1), frD (qF D b.2)] := rfl
  have er : ptD D (X, yOn a b X) = .tuple [frD (qF D X), frD (qF D (yOn a b X))] := rfl
  rw [er]
  generalize frD (divF (qF D (X - a.1)) (qF D (b.1 - a.1))) = R at *
  generalize ptD D a = A at *
  generalize ptD D b = B at *
  generalize frD (qF D X) = XX at *
  generalize frD (qF D (yOn a b X)) = YY at *
  generalize frD (qF D a.1) = A0 at *
  generalize frD (qF D a.2) = A1 at *
  generalize frD (qF D b.1) = B0 at *
  generalize frD (qF D b.2) = B1 at *
  simp [qd14, qb14, startE_eq, List.replicate_succ, i0, i1, d1, d2, o, runE_lc, noOwn, wipeE, backE, sa, sb, cm]
end

--part
def sgn (x : Int) : Int := if 0 < x then 1 else if x < 0 then -1 else 0
theorem sgn_is (x : Int) : 0 < x ∧ sgn x = 1 ∨ x = 0 ∧ sgn x = 0 ∨ x < 0 ∧ sgn x = -1 := by
  unfold sgn
  rcases Int.lt_trichotomy x 0 with h | h | h
  · rw [if_neg (by omega), if_pos h]
    omega
  · rw [if_neg (by omega), if_neg (by omega)]
    omega
  · rw [if_pos h]
    omega
theorem sgn_cmp (x y : Int) : (if y < x then (1 : Int) else if x < y then -1 else 0) = sgn (x - y) := by
  have e1 : (0 < x - y) ↔ y < x := by omega
  have e2 : (x - y < 0) ↔ x < y := by omega
  unfold sgn
  simp only [e1, e2]
theorem forD_ix {body : PyData → En → Option Fl} (F : Nat → PyData) (I : Nat → En → Prop) (n : Nat) (env : En) (h : I 0 env) (H : ∀ i, i < n → ∀ e, I i e → ∃ e', body (F i) e = some (.nx e') ∧ I (i + 1) e') : ∃ e, forD body ((List.range n).map F) env = some (.nx e) ∧ I n e := by
  have hl : ((List.range n).map F).length = n := by simp
  obtain ⟨e, h1, h2⟩ := forD_keep I ((List.range n).map F) 0 env h (fun i hi e he => by
    rw [Nat.zero_add] at he ⊢
    have e1 : ((List.range n).map F)[i] = F i := by simp
    rw [e1]
    exact H i (hl ▸ hi) e he)
  rw [Nat.zero_add, hl] at h2
  exact ⟨e, h1, h2⟩
theorem sgn_sg {sg : Int} (hs : sg = 1 ∨ sg = -1) (x y : Int) : (0 ≤ sgn x * sg ↔ 0 ≤ sg * x) ∧ (sgn x * sg * (sgn y * sg) < 0 ↔ x * y < 0) ∧ (sgn x * sg).natAbs ≤ 1 := by
  have pn : x * y < 0 ↔ (x < 0 ∧ 0 < y ∨ 0 < x ∧ y < 0) := ⟨neg_prod, prod_neg⟩
  rw [pn]
  rcases sgn_is x with ⟨a, e⟩ | ⟨a, e⟩ | ⟨a, e⟩ <;> rcases sgn_is y with ⟨b, f⟩ | ⟨b, f⟩ | ⟨b, f⟩ <;> rcases hs with rfl | rfl <;> rw [e, f] <;> refine ⟨?_, ?_, by decide⟩ <;> constructor <;> intro h <;> omega
theorem y_bd {a b : Pt} {X : Int} (ha : OkP a) (hb : OkP b) (h : (a.1 - X) * (b.1 - X) < 0) (ev : cross a b (X, yOn a b X) = 0) : Bd 60 (yOn a b X) := by
  have hm : amidI a.2 b.2 (yOn a b X) := by
    rcases neg_prod h with ⟨u, v⟩ | ⟨u, v⟩
    · exact seg_y (by omega) (by omega) (by omega) ev
    · have ev' : cross b a (X, yOn a b X) = 0 := by
        rw [cross_swap, ev]
        rfl
      have := seg_y (m := b) (M := a) (by omega) (by omega) (by omega) ev'
      unfold amidI at this ⊢
      omega
  have h1 := ha.2
  have h2 := hb.2
  unfold amidI at hm
  unfold Bd at *
  omega
section
variable {D : Int} (h0 : 0 < D) (hD : Bd 60 D)
include h0 hD
theorem cutoff_at (n : Nat) (G : List Pt) {X sg : Int} (hs : sg = 1 ∨ sg = -1) (ho : ∀ p ∈ G, OkP p) (hX : Bd 60 X) (hl : G.length ≤ 400) (ev : Even (edg G) X) :
    ∃ line : List Pt, runP cons FU defs (n + 7) 15 [.v (.tuple (G.map (ptD D))), .v (.int 0), .v (frD (qF D X)), .v (.int sg)] = some (.v (.tuple ((polyL line).map (ptD D))), []) ∧ line.Pairwise lexB ∧ (∀ p, p ∈ line ↔ p ∈ (edg G).flatMap (cOf sg X)) ∧ line.length ≤ 2 * G.length ∧ ∀ p ∈ line, OkP p := by
  have em := edg_map G
  obtain ⟨Eg, hE⟩ : ∃ Eg : Nat → Pt × Pt, Eg = fun k => (G.getD k (0, 0), G.getD ((k + 1) % G.length) (0, 0)) := ⟨_, rfl⟩
  rw [← hE] at em
  have inG : ∀ k, k < G.length → (Eg k).1 ∈ G ∧ (Eg k).2 ∈ G := fun k hk => by
    have h2 : (k + 1) % G.length < G.length := Nat.mod_lt _ (by omega)
    rw [hE]
    simp only [List.getD_eq_getElem?_getD, List.getElem?_eq_getElem hk, List.getElem?_eq_getElem h2, Option.getD_some]
    exact ⟨List.getElem_mem hk, List.getElem_mem h2⟩
  have evk : ∀ k, k < G.length → ((Eg k).1.1 - X) * ((Eg k).2.1 - X) < 0 → cross (Eg k).1 (Eg k).2 (X, yOn (Eg k).1 (Eg k).2 X) = 0 := fun k hk => ev _ (by rw [em]; exact List.mem_map.mpr ⟨k, List.mem_range.mpr hk, rfl⟩)
  have okc : ∀ k, k < G.length → ∀ p ∈ cOf sg X (Eg k), OkP p := fun k hk p hp => by
    obtain ⟨i1, i2⟩ := inG k hk
    unfold cOf at hp
    rcases List.mem_append.mp hp with hp | hp
    · split at hp
      · rw [List.mem_singleton.mp hp]
        exact ho _ i1
      · cases hp
    · split at hp
      · rename_i hn
        rw [List.mem_singleton.mp hp]
        exact ⟨hX, y_bd (ho _ i1) (ho _ i2) hn (evk k hk hn)⟩
      · cases hp
  have okF : ∀ k, k ≤ G.length → ∀ p ∈ (List.range k).flatMap fun i => cOf sg X (Eg i), OkP p := fun k hk p hp => by
    rw [List.mem_flatMap] at hp
    obtain ⟨i, hi, hp⟩ := hp
    exact okc i (by have := List.mem_range.mp hi; omega) p hp
  have lenF : ∀ k, ((List.range k).flatMap fun i => cOf sg X (Eg i)).length ≤ 2 * k := fun k => by
    induction k with
    | zero => simp
    | succ k ih =>
      rw [List.range_succ, List.flatMap_append, List.length_append]
      have := cOf_len sg X (Eg k)
      simp only [List.flatMap_cons, List.flatMap_nil, List.append_nil]
      omega
  have sucF : ∀ k, ((List.range (k + 1)).flatMap fun i => cOf sg X (Eg i)) = ((List.range k).flatMap fun i => cOf sg X (Eg i)) ++ cOf sg X (Eg k) := fun k => by
    rw [List.range_succ, List.flatMap_append]
    simp
  have en : enumD 0 (G.map (ptD D)) = (List.range G.length).map fun k : Nat => .tuple [.int (k : Int), ptD D (G.getD k (0, 0))] := by
    have key : ∀ (l : List Pt) (k : Nat), enumD k (l.map (ptD D)) = (List.range l.length).map fun j => .tuple [.int ((k + j : Nat) : Int), ptD D (l.getD j (0, 0))] := by
      intro l
      induction l with
      | nil => intro k; rfl
      | cons x r ih =>
        intro k
        show _ :: enumD (k + 1) (r.map (ptD D)) = _
        rw [ih (k + 1), List.length_cons, List.range_succ_eq_map, List.map_cons, List.map_map]
        refine congr (congrArg _ rfl) (List.map_congr_left fun j _ => ?_)
        simp only [Function.comp, List.getD_cons_succ]
        rw [show k + 1 + j = k + (j + 1) by omega]
    rw [key G 0]
    exact List.map_congr_left fun j _ => by rw [Nat.zero_add]
  obtain ⟨e, f, rfl⟩ := forD_ix (body := fun d en => (runG (.t (.cons (.n 5) (.cons (.n 6) .nil))) d en).bind fun en1 => (runB (runP cons FU defs (n + 6)) cons FU qb15_0 en1).bind fun f => some (wipF [5, 6, 7, 8, 9] f))
    (fun k => .tuple [.int (k : Int), ptD D (G.getD k (0, 0))])
    (fun k e => e = [some (.v (.tuple (G.map (ptD D)))), some (.v (.int 0)), some (.v (frD (qF D X))), some (.v (.int sg)), some (.o (((List.range k).flatMap fun i => cOf sg X (Eg i)).map (ptD D))), none, none, none, none, none]) G.length [some (.v (.tuple (G.map (ptD D)))), some (.v (.int 0)), some (.v (frD (qF D X))), some (.v (.int sg)), some (.o []), none, none, none, none, none] rfl (by
      rintro k hk e rfl
      refine ⟨_, ?_, rfl⟩
      obtain ⟨i1, i2⟩ := inG k hk
      have e1 : G.getD k (0, 0) = (Eg k).1 := by rw [hE]
      have a2 : atI (G.map (ptD D)) (((k + 1) % G.length : Nat) : Int) = some (ptD D (Eg k).2) := by
        have h2 : (k + 1) % G.length < G.length := Nat.mod_lt _ (by omega)
        refine at_n rfl ?_
        rw [List.getElem?_map, List.getElem?_eq_getElem h2, hE]
        simp only [List.getD_eq_getElem?_getD, List.getElem?_eq_getElem h2, Option.getD_some, Option.map_some]
      have md : binD .Mod (.int ((k : Int) + 1)) (.int (G.length : Int)) = some (.v (.int (((k + 1) % G.length : Nat) : Int))) := by
        have := modB (a := (k : Int) + 1) (b := (G.length : Int)) (by omega)
        rw [this]
        rfl
      have lm : (G.map (ptD D)).length = G.length := List.length_map _
      have c1 := comp_at h0 hD (n + 5) (ho _ i1).1 hX
      have c2 := comp_at h0 hD (n + 5) (ho _ i2).1 hX
      rw [sgn_cmp] at c1 c2
      have cr := fun hn => crossing_at h0 hD (n + 2) (ho _ i1) (ho _ i2) hX hn (evk k hk hn)
      obtain ⟨g1, g2, g3⟩ := sgn_sg hs ((Eg k).1.1 - X) ((Eg k).2.1 - X)
      obtain ⟨_, _, g4⟩ := sgn_sg hs ((Eg k).2.1 - X) ((Eg k).2.1 - X)
      have b1 : (sgn ((Eg k).1.1 - X)).natAbs ≤ 1 := by rcases sgn_is ((Eg k).1.1 - X) with h | h | h <;> omega
      have b2 : (sgn ((Eg k).2.1 - X)).natAbs ≤ 1 := by rcases sgn_is ((Eg k).2.1 - X) with h | h | h <;> omega
      have bs : sg.natAbs ≤ 1 := by rcases hs with h | h <;> omega
      have m1 : binD .Mult (.int (sgn ((Eg k).1.1 - X))) (.int sg) = some (.v (.int (sgn ((Eg k).1.1 - X) * sg))) := mulB (by omega) (by omega)
      have m2 : binD .Mult (.int (sgn ((Eg k).2.1 - X))) (.int sg) = some (.v (.int (sgn ((Eg k).2.1 - X) * sg))) := mulB (by omega) (by omega)
      have m3 : binD .Mult (.int (sgn ((Eg k).1.1 - X) * sg)) (.int (sgn ((Eg k).2.1 - X) * sg)) = some (.v (.int (sgn ((Eg k).1.1 - X) * sg * (sgn ((Eg k).2.1 - X) * sg)))) := mulB (by omega) (by omega)
      rw [sucF, List.map_append]
      have z1 : (((List.range k).flatMap fun i => cOf sg X (Eg i)).map (ptD D)).length + 2 < sizeLine := by
        rw [List.length_map, line_is]
        have := lenF k
        omega
      rw [e1]
      have p0 := pt_0 D (Eg k).1
      have p1 := pt_0 D (Eg k).2
      generalize ((List.range k).flatMap fun i => cOf sg X (Eg i)).map (ptD D) = Fk at *
      unfold cOf
      have z0 : Fk.length < sizeLine := by omega
      have z2 : Fk.length + 1 < sizeLine := by omega
      generalize G.map (ptD D) = GD at *
      have e6 : G.length = GD.length := lm.symm
      by_cases h1 : 0 ≤ sg * ((Eg k).1.1 - X)
      · have h1' := g1.mpr h1
        rw [if_pos h1]
        by_cases h2 : ((Eg k).1.1 - X) * ((Eg k).2.1 - X) < 0
        · have h2' := g2.mpr h2
          have cr := cr h2
          rw [if_pos h2]
          simp only [List.map_append, List.map_cons, List.map_nil]
          generalize ptD D (Eg k).1 = A at *
          generalize ptD D (Eg k).2 = B at *
          generalize ptD D (X, yOn (Eg k).1 (Eg k).2 X) = W at *
          generalize frD (qF D X) = XX at *
          generalize frD (qF D (Eg k).1.1) = A0 at *
          generalize frD (qF D (Eg k).2.1) = B0 at *
          generalize sgn ((Eg k).1.1 - X) = u at *
          generalize sgn ((Eg k).2.1 - X) = v at *
          generalize ((k + 1) % G.length : Nat) = K at *
          generalize u * sg * (v * sg) = uv at *
          generalize u * sg = u1 at *
          generalize v * sg = v1 at *
          simp [-mod_ii, qb15_0, runE_mt, mtD, lm, md, a2, p0, p1, c1, c2, m1, m2, m3, h1', h2', z0, z2, cr]
        · have h2' : ¬ (sgn ((Eg k).1.1 - X) * sg * (sgn ((Eg k).2.1 - X) * sg)) < 0 := fun z => h2 (g2.mp z)
          rw [if_neg h2]
          simp only [List.map_append, List.map_cons, List.map_nil]
          generalize ptD D (Eg k).1 = A at *
          generalize ptD D (Eg k).2 = B at *
          generalize frD (qF D X) = XX at *
          generalize frD (qF D (Eg k).1.1) = A0 at *
          generalize frD (qF D (Eg k).2.1) = B0 at *
          generalize sgn ((Eg k).1.1 - X) = u at *
          generalize sgn ((Eg k).2.1 - X) = v at *
          generalize ((k + 1) % G.length : Nat) = K at *
          generalize u * sg * (v * sg) = uv at *
          generalize u * sg = u1 at *
          generalize v * sg = v1 at *
          simp [-mod_ii, qb15_0, runE_mt, mtD, lm, md, a2, p0, p1, c1, c2, m1, m2, m3, h1', h2', z0, z2]
      · have h1' : ¬ 0 ≤ sgn ((Eg k).1.1 - X) * sg := fun z => h1 (g1.mp z)
        rw [if_neg h1]
        by_cases h2 : ((Eg k).1.1 - X) * ((Eg k).2.1 - X) < 0
        · have h2' := g2.mpr h2
          have cr := cr h2
          rw [if_pos h2]
          simp only [List.map_append, List.map_cons, List.map_nil]
          generalize ptD D (Eg k).1 = A at *
          generalize ptD D (Eg k).2 = B at *
          generalize ptD D (X, yOn (Eg k).1 (Eg k).2 X) = W at *
          generalize frD (qF D X) = XX at *
          generalize frD (qF D (Eg k).1.1) = A0 at *
          generalize frD (qF D (Eg k).2.1) = B0 at *
          generalize sgn ((Eg k).1.1 - X) = u at *
          generalize sgn ((Eg k).2.1 - X) = v at *
          generalize ((k + 1) % G.length : Nat) = K at *
          generalize u * sg * (v * sg) = uv at *
          generalize u * sg = u1 at *
          generalize v * sg = v1 at *
          simp [-mod_ii, qb15_0, runE_mt, mtD, lm, md, a2, p0, p1, c1, c2, m1, m2, m3, h1', h2', z0, z2, cr]
        · have h2' : ¬ (sgn ((Eg k).1.1 - X) * sg * (sgn ((Eg k).2.1 - X) * sg)) < 0 := fun z => h2 (g2.mp z)
          rw [if_neg h2]
          simp only [List.map_append, List.map_cons, List.map_nil]
          generalize ptD D (Eg k).1 = A at *
          generalize ptD D (Eg k).2 = B at *
          generalize frD (qF D X) = XX at *
          generalize frD (qF D (Eg k).1.1) = A0 at *
          generalize frD (qF D (Eg k).2.1) = B0 at *
          generalize sgn ((Eg k).1.1 - X) = u at *
          generalize sgn ((Eg k).2.1 - X) = v at *
          generalize ((k + 1) % G.length : Nat) = K at *
          generalize u * sg * (v * sg) = uv at *
          generalize u * sg = u1 at *
          generalize v * sg = v1 at *
          simp [-mod_ii, qb15_0, runE_mt, mtD, lm, md, a2, p0, p1, c1, c2, m1, m2, m3, h1', h2', z0, z2])
  have lF := lenF G.length
  obtain ⟨line, q, l1, l2, l3⟩ := polyof_at h0 hD n (.list (((List.range G.length).flatMap fun i => cOf sg X (Eg i)).map (ptD D))) ((List.range G.length).flatMap fun i => cOf sg X (Eg i)) (.inl rfl) (okF _ (Nat.le_refl _)) (by omega)
  have ee : (edg G).flatMap (cOf sg X) = (List.range G.length).flatMap fun i => cOf sg X (Eg i) := by
    rw [em, List.flatMap_map]
  refine ⟨line, ?_, l1, fun p => by rw [ee]; exact l2 p, by omega, fun p hp => okF _ (Nat.le_refl _) p ((l2 p).mp hp)⟩
  rw [← en] at f
  rw [at_def qd15 rfl rfl]
  generalize ((List.range G.length).flatMap fun i => cOf sg X (Eg i)).map (ptD D) = Fk at *
  generalize (polyL line).map (ptD D) = R at *
  generalize G.map (ptD D) = GD at *
  generalize frD (qF D X) = XX at *
  simp [qd15, qb15, startE_eq, List.replicate_succ, runS_for, f, q]
end

--part
theorem eqv_le (xs : List PyData) : PyData.eqv (.list xs) (.list []) = xs.isEmpty := by
  cases xs <;> simp [PyData.eqv, PyData.eqvAll]
theorem eqv_te (xs : List PyData) : PyData.eqv (.tuple xs) (.tuple []) = xs.isEmpty := by
  cases xs <;> simp [PyData.eqv, PyData.eqvAll]
theorem eq_le (xs : List PyData) : cmpD .Eq (.list xs) (.list []) = some xs.isEmpty := by
  unfold cmpD
  simp only
  split
  · rw [eqv_le]
  · rfl
theorem ne_le (xs : List PyData) : cmpD .NotEq (.list xs) (.list []) = some (!xs.isEmpty) := by
  unfold cmpD
  simp only
  split
  · rw [eqv_le]
  · rfl
theorem eq_te (xs : List PyData) : cmpD .Eq (.tuple xs) (.tuple []) = some xs.isEmpty := by
  unfold cmpD
  simp only
  split
  · rw [eqv_te]
  · rfl
theorem ne_te (xs : List PyData) : cmpD .NotEq (.tuple xs) (.tuple []) = some (!xs.isEmpty) := by
  unfold cmpD
  simp only
  split
  · rw [eqv_te]
  · rfl

theorem polyL_sub {line : List Pt} (hs : line.Pairwise lexB) : ∀ p ∈ polyL line, p ∈ line := fun p hp => by
  by_cases h2 : 2 ≤ line.length
  · obtain ⟨m, M, s1, s2, T⟩ := two_ex hs h2
    rw [T.poly hs h2] at hp
    exact T.sub p hp
  · unfold polyL at hp
    rw [if_pos (by omega)] at hp
    exact hp
theorem polyL_len (line : List Pt) : (polyL line).length ≤ 2 * line.length := by
  have key : ∀ (l s : List Pt), (l.foldl push s).length ≤ s.length + l.length := by
    intro l
    induction l with
    | nil => intro s; simp
    | cons c r ih =>
      intro s
      have := ih (push s c)
      have p := (pops_suffix s c).length_le
      rw [List.foldl_cons]
      unfold push at this ⊢
      simp only [List.length_cons] at this ⊢
      omega
  have k1 : (half line).length ≤ line.length := by
    have := key line []
    simpa [half] using this
  have k2 : (half line.reverse).length ≤ line.length := by
    have := key line.reverse []
    simpa [half] using this
  unfold polyL
  split
  · omega
  · simp only [List.length_append, List.length_dropLast, List.length_reverse]
    omega
/-- the least and the greatest over the least place -/
theorem polyL_ext {line : List Pt} (hs : line.Pairwise lexB) {p : Pt} (hp : p ∈ line) (hx : ∀ q ∈ line, p.1 ≤ q.1) (hy : (∀ q ∈ line, q.1 = p.1 → p.2 ≤ q.2) ∨ (∀ q ∈ line, q.1 = p.1 → q.2 ≤ p.2)) : p ∈ polyL line := by
  by_cases h2 : 2 ≤ line.length
  · obtain ⟨m, M, s1, s2, T⟩ := two_ex hs h2
    rw [T.poly hs h2]
    have mx : p.1 = m.1 := by
      have a := hx m T.mm
      rcases T.lo p hp with rfl | h
      · rfl
      · unfold lexB at h; omega
    rcases hy with hy | hy
    · have : p = m := by
        rcases T.lo p hp with h | h
        · exact h
        · have := hy m T.mm mx.symm
          unfold lexB at h; omega
      rw [this]
      exact List.mem_append_left _ (List.mem_reverse.mpr (List.mem_of_getLast? T.heads.1))
    · exact T.left hp mx (fun q hq e => hy q hq (by omega))
  · unfold polyL
    rw [if_pos (by omega)]
    exact hp
theorem edg_in (G : List Pt) : ∀ e ∈ edg G, e.1 ∈ G ∧ e.2 ∈ G := fun e he => by
  rw [edg_map] at he
  obtain ⟨k, hk, rfl⟩ := List.mem_map.mp he
  have hk := List.mem_range.mp hk
  have h2 : (k + 1) % G.length < G.length := Nat.mod_lt _ (by omega)
  simp only [List.getD_eq_getElem?_getD, List.getElem?_eq_getElem hk, List.getElem?_eq_getElem h2, Option.getD_some]
  exact ⟨List.getElem_mem hk, List.getElem_mem h2⟩
theorem edg_start (G : List Pt) : ∀ p ∈ G, ∃ e ∈ edg G, e.1 = p := fun p hp => by
  obtain ⟨k, hk, rfl⟩ := List.getElem_of_mem hp
  refine ⟨_, by rw [edg_map]; exact List.mem_map.mpr ⟨k, List.mem_range.mpr hk, rfl⟩, ?_⟩
  simp [List.getD_eq_getElem?_getD, List.getElem?_eq_getElem hk]
/-- the least and the greatest of some, none -/
def IsR (S : List Int) : Option (Int × Int) → Prop
  | none => S = []
  | some r => r.1 ∈ S ∧ r.2 ∈ S ∧ ∀ y ∈ S, r.1 ≤ y ∧ y ≤ r.2
def loD (D : Int) : Option (Int × Int) → PyData
  | none => .none
  | some r => .tuple [frD (qF D r.1), frD (qF D r.2)]
theorem isR_uniq {S : List Int} {r r' : Option (Int × Int)} (h : IsR S r) (h' : IsR S r') : r = r' := by
  cases r with
  | none =>
    cases r' with
    | none => rfl
    | some q =>
      have h : S = [] := h
      rw [h] at h'
      cases h'.1
  | some p =>
    cases r' with
    | none =>
      have h' : S = [] := h'
      rw [h'] at h
      cases h.1
    | some q =>
      have a := h.2.2 _ h'.1
      have b := h.2.2 _ h'.2.1
      have c := h'.2.2 _ h.1
      have d := h'.2.2 _ h.2.1
      congr 1
      exact Prod.ext (by omega) (by omega)
theorem isR_sub {S T : List Int} (h : ∀ y ∈ T, y ∈ S) {r : Option (Int × Int)} (hr : IsR S r) (hk : ∀ q, r = some q → q.1 ∈ T ∧ q.2 ∈ T) : IsR T r := by
  cases r with
  | none =>
    have hr : S = [] := hr
    show T = []
    cases T with
    | nil => rfl
    | cons y _ =>
      have := h y (by simp)
      rw [hr] at this
      cases this
  | some q => exact ⟨(hk q rfl).1, (hk q rfl).2, fun y hy => hr.2.2 y (h y hy)⟩
theorem isR_ex (S : List Int) : ∃ r, IsR S r := by
  induction S with
  | nil => exact ⟨none, rfl⟩
  | cons x t ih =>
    obtain ⟨r, hr⟩ := ih
    cases r with
    | none =>
      have hr : t = [] := hr
      rw [hr]
      exact ⟨some (x, x), by simp, by simp, fun y hy => by rw [List.mem_singleton.mp hy]; exact ⟨Int.le_refl _, Int.le_refl _⟩⟩
    | some q =>
      obtain ⟨a, b, c⟩ := hr
      refine ⟨some (min x q.1, max x q.2), ?_, ?_, fun y hy => ?_⟩
      · show min x q.1 ∈ x :: t
        by_cases z : x ≤ q.1
        · rw [Int.min_eq_left z]
          simp
        · rw [Int.min_eq_right (by omega)]
          exact List.mem_cons_of_mem _ a
      · show max x q.2 ∈ x :: t
        by_cases z : x ≤ q.2
        · rw [Int.max_eq_right z]
          exact List.mem_cons_of_mem _ b
        · rw [Int.max_eq_left (by omega)]
          simp
      · show min x q.1 ≤ y ∧ y ≤ max x q.2
        rcases List.mem_cons.mp hy with rfl | hy
        · omega
        · have := c y hy
          omega
section
variable {D : Int} (h0 : 0 < D) (hD : Bd 60 D)
include h0 hD
theorem leastof_at (n : Nat) (x : Int) (r : List Int) (ho : ∀ y ∈ x :: r, Bd 60 y) : ∃ m : Int, runP cons FU defs (n + 2) 7 [.v (.list ((x :: r).map fun y => frD (qF D y)))] = some (.v (frD (qF D m)), []) ∧ m ∈ x :: r ∧ ∀ y ∈ x :: r, m ≤ y := by
  obtain ⟨e, f, m, rfl, m1, m2⟩ := forD_keep (body := fun d en => (En.put en 2 (.v d)).bind fun en1 => (runB (runP cons FU defs (n + 1)) cons FU qb7_0 en1).bind fun f => some (wipF [0, 2] f))
    (fun i e => ∃ m : Int, e = [none, some (.v (frD (qF D m))), none] ∧ m ∈ x :: r ∧ ∀ y ∈ (x :: r).take i, m ≤ y) ((x :: r).map fun y => frD (qF D y)) 0 [none, some (.v (frD (qF D x))), none] ⟨x, rfl, by simp, by simp⟩ (by
      rintro i hi e ⟨m, rfl, m1, m2⟩
      rw [Nat.zero_add] at m2 ⊢
      have hi' : i < (x :: r).length := by simpa using hi
      rw [List.getElem_map]
      have tk : (x :: r).take (i + 1) = (x :: r).take i ++ [(x :: r)[i]] := by rw [List.take_succ, List.getElem?_eq_getElem hi']; rfl
      rw [tk]
      have hm := List.getElem_mem hi'
      generalize (x :: r)[i] = y at *
      have q := comp_at h0 hD n (ho y hm) (ho m m1)
      by_cases c : y < m
      · refine ⟨_, ?_, y, rfl, hm, fun z hz => ?_⟩
        · rw [if_neg (by omega), if_pos c] at q
          generalize frD (qF D y) = Y at *
          generalize frD (qF D m) = M at *
          simp [qb7_0, q]
        · rcases List.mem_append.mp hz with hz | hz
          · have := m2 z hz
            omega
          · rw [List.mem_singleton.mp hz]
            exact Int.le_refl _
      · refine ⟨_, ?_, m, rfl, m1, fun z hz => ?_⟩
        · rw [if_neg c] at q
          generalize hY : frD (qF D y) = Y at *
          generalize hM : frD (qF D m) = M at *
          by_cases c2 : m < y
          · rw [if_pos c2] at q
            simp [qb7_0, q]
          · rw [if_neg c2] at q
            simp [qb7_0, q]
        · rcases List.mem_append.mp hz with hz | hz
          · exact m2 z hz
          · rw [List.mem_singleton.mp hz]
            omega)
  rw [Nat.zero_add, List.length_map, List.take_length] at m2
  refine ⟨m, ?_, m1, m2⟩
  have i0 : ixD (.list ((x :: r).map fun y => frD (qF D y))) (.int 0) = some (frD (qF D x)) := at_i0 _ _
  rw [at_def qd7 rfl rfl]
  generalize (x :: r).map (fun y => frD (qF D y)) = X at *
  generalize frD (qF D m) = M at *
  generalize frD (qF D x) = X0 at *
  simp [qd7, qb7, startE_eq, List.replicate_succ, i0, runS_for, f]
theorem greatestof_at (n : Nat) (x : Int) (r : List Int) (ho : ∀ y ∈ x :: r, Bd 60 y) : ∃ m : Int, runP cons FU defs (n + 2) 8 [.v (.list ((x :: r).map fun y => frD (qF D y)))] = some (.v (frD (qF D m)), []) ∧ m ∈ x :: r ∧ ∀ y ∈ x :: r, y ≤ m := by
  obtain ⟨e, f, m, rfl, m1, m2⟩ := forD_keep (body := fun d en => (En.put en 2 (.v d)).bind fun en1 => (runB (runP cons FU defs (n + 1)) cons FU qb8_0 en1).bind fun f => some (wipF [0, 2] f))
    (fun i e => ∃ m : Int, e = [none, some (.v (frD (qF D m))), none] ∧ m ∈ x :: r ∧ ∀ y ∈ (x :: r).take i, y ≤ m) ((x :: r).map fun y => frD (qF D y)) 0 [none, some (.v (frD (qF D x))), none] ⟨x, rfl, by simp, by simp⟩ (by
      rintro i hi e ⟨m, rfl, m1, m2⟩
      rw [Nat.zero_add] at m2 ⊢
      have hi' : i < (x :: r).length := by simpa using hi
      rw [List.getElem_map]
      have tk : (x :: r).take (i + 1) = (x :: r).take i ++ [(x :: r)[i]] := by rw [List.take_succ, List.getElem?_eq_getElem hi']; rfl
      rw [tk]
      have hm := List.getElem_mem hi'
      generalize (x :: r)[i] = y at *
      have q := comp_at h0 hD n (ho y hm) (ho m m1)
      by_cases c : m < y
      · refine ⟨_, ?_, y, rfl, hm, fun z hz => ?_⟩
        · rw [if_pos c] at q
          generalize frD (qF D y) = Y at *
          generalize frD (qF D m) = M at *
          simp [qb8_0, q]
        · rcases List.mem_append.mp hz with hz | hz
          · have := m2 z hz
            omega
          · rw [List.mem_singleton.mp hz]
            exact Int.le_refl _
      · refine ⟨_, ?_, m, rfl, m1, fun z hz => ?_⟩
        · rw [if_neg c] at q
          generalize hY : frD (qF D y) = Y at *
          generalize hM : frD (qF D m) = M at *
          by_cases c2 : y < m
          · rw [if_pos c2] at q
            simp [qb8_0, q]
          · rw [if_neg c2] at q
            simp [qb8_0, q]
        · rcases List.mem_append.mp hz with hz | hz
          · exact m2 z hz
          · rw [List.mem_singleton.mp hz]
            omega)
  rw [Nat.zero_add, List.length_map, List.take_length] at m2
  refine ⟨m, ?_, m1, m2⟩
  have i0 : ixD (.list ((x :: r).map fun y => frD (qF D y))) (.int 0) = some (frD (qF D x)) := at_i0 _ _
  rw [at_def qd8 rfl rfl]
  generalize (x :: r).map (fun y => frD (qF D y)) = X at *
  generalize frD (qF D m) = M at *
  generalize frD (qF D x) = X0 at *
  simp [qd8, qb8, startE_eq, List.replicate_succ, i0, runS_for, f]
end

--part
section
variable {D : Int} (h0 : 0 < D) (hD : Bd 60 D)
include h0 hD
theorem longs_at (n : Nat) (G : List Pt) {X : Int} (ho : ∀ p ∈ G, OkP p) (hX : Bd 60 X) (hl : G.length ≤ 100) (ev : Even (edg G) X) :
    ∃ r, runP cons FU defs (n + 9) 17 [.v (.tuple (G.map (ptD D))), .v (frD (qF D X))] = some (.v (loD D r), []) ∧ IsR (sL (edg G) X) r := by
  obtain ⟨line1, q1, a1, a2, a3, a4⟩ := cutoff_at h0 hD n G (sg := 1) (.inl rfl) ho hX (by omega) ev
  have x1 : ∀ p ∈ line1, X ≤ p.1 := fun p hp => by
    obtain ⟨e, he, h⟩ := List.mem_flatMap.mp ((a2 p).mp hp)
    unfold cOf at h
    rcases List.mem_append.mp h with h | h
    · split at h
      · rw [List.mem_singleton.mp h]
        omega
      · cases h
    · split at h
      · rw [List.mem_singleton.mp h]
        exact Int.le_refl _
      · cases h
  have s1 : ∀ p, p ∈ line1 ∧ p.1 = X ↔ p.1 = X ∧ p.2 ∈ sL (edg G) X := fun p => by
    rw [a2, List.mem_flatMap, mem_sL]
    constructor
    · rintro ⟨⟨e, he, h⟩, hx⟩
      refine ⟨hx, e, he, ?_⟩
      unfold cOf at h
      rcases List.mem_append.mp h with h | h
      · split at h
        · rw [List.mem_singleton.mp h] at hx ⊢
          exact .inl ⟨hx, rfl⟩
        · cases h
      · split at h
        · rename_i hn
          rw [List.mem_singleton.mp h]
          exact .inr ⟨hn, rfl⟩
        · cases h
    · rintro ⟨hx, e, he, h⟩
      refine ⟨⟨e, he, ?_⟩, hx⟩
      unfold cOf
      rcases h with ⟨h, h2⟩ | ⟨h, h2⟩
      · rw [if_pos (by omega)]
        refine List.mem_append_left _ (List.mem_singleton.mpr (Prod.ext (by omega) h2))
      · rw [if_pos h]
        exact List.mem_append_right _ (List.mem_singleton.mpr (Prod.ext hx h2))
  have g1 := polyL_sub a1
  have l1 := polyL_len line1
  have ev1 : Even (edg (polyL line1)) X := fun e he hn => by
    have h := edg_in _ e he
    have b1 := x1 _ (g1 _ h.1)
    have b2 := x1 _ (g1 _ h.2)
    have := neg_prod hn
    omega
  obtain ⟨line2, q2, b1, b2, b3, b4⟩ := cutoff_at h0 hD n (polyL line1) (sg := -1) (.inr rfl) (fun p hp => a4 p (g1 p hp)) hX (by omega) ev1
  have s2 : ∀ p, p ∈ line2 ↔ p ∈ polyL line1 ∧ p.1 = X := fun p => by
    rw [b2, List.mem_flatMap]
    constructor
    · rintro ⟨e, he, h⟩
      have hi := edg_in _ e he
      have b1 := x1 _ (g1 _ hi.1)
      have b2 := x1 _ (g1 _ hi.2)
      unfold cOf at h
      rcases List.mem_append.mp h with h | h
      · split at h
        · rw [List.mem_singleton.mp h]
          exact ⟨hi.1, by omega⟩
        · cases h
      · split at h
        · rename_i hn
          have := neg_prod hn
          omega
        · cases h
    · rintro ⟨hp, hx⟩
      obtain ⟨e, he, h⟩ := edg_start _ p hp
      refine ⟨e, he, ?_⟩
      unfold cOf
      rw [if_pos (by rw [h]; omega), h]
      exact List.mem_append_left _ (List.mem_singleton.mpr rfl)
  have g2 := polyL_sub b1
  have in2 : ∀ p ∈ polyL line2, p.1 = X ∧ p.2 ∈ sL (edg G) X := fun p hp => by
    have h := (s2 p).mp (g2 p hp)
    exact (s1 p).mp ⟨g1 p h.1, h.2⟩
  have S2 : ∀ y ∈ (polyL line2).map (·.2), y ∈ sL (edg G) X := fun y hy => by
    obtain ⟨p, hp, rfl⟩ := List.mem_map.mp hy
    exact (in2 p hp).2
  obtain ⟨r, hr⟩ := isR_ex (sL (edg G) X)
  have keep : ∀ y ∈ sL (edg G) X, ((∀ z ∈ sL (edg G) X, y ≤ z) ∨ (∀ z ∈ sL (edg G) X, z ≤ y)) → y ∈ (polyL line2).map (·.2) := fun y hy h => by
    have m1 : (X, y) ∈ line1 := ((s1 (X, y)).mpr ⟨rfl, hy⟩).1
    have e1 : (X, y) ∈ polyL line1 := polyL_ext a1 m1 (fun q hq => x1 q hq) (by
      rcases h with h | h
      · exact .inl fun q hq hx => h _ ((s1 q).mp ⟨hq, hx⟩).2
      · exact .inr fun q hq hx => h _ ((s1 q).mp ⟨hq, hx⟩).2)
    have m2 : (X, y) ∈ line2 := (s2 _).mpr ⟨e1, rfl⟩
    have e2 : (X, y) ∈ polyL line2 := polyL_ext b1 m2 (fun q hq => by have := (s2 q).mp hq; simp only; omega) (by
      rcases h with h | h
      · exact .inl fun q hq hx => h _ ((s1 q).mp ⟨g1 _ ((s2 q).mp hq).1, hx⟩).2
      · exact .inr fun q hq hx => h _ ((s1 q).mp ⟨g1 _ ((s2 q).mp hq).1, hx⟩).2)
    exact List.mem_map.mpr ⟨_, e2, rfl⟩
  have hr2 : IsR ((polyL line2).map (·.2)) r := isR_sub S2 hr (fun q e => by
    subst e
    exact ⟨keep _ hr.1 (.inl fun z hz => (hr.2.2 z hz).1), keep _ hr.2.1 (.inr fun z hz => (hr.2.2 z hz).2)⟩)
  refine ⟨r, ?_, hr⟩
  have qc : runP cons FU defs (n + 8) 16 [.v (.tuple (G.map (ptD D))), .v (frD (qF D X)), .v (frD (qF D X))] = some (.v (.tuple ((polyL line2).map (ptD D))), []) := by
    rw [at_def qd16 rfl rfl]
    generalize G.map (ptD D) = GD at *
    generalize (polyL line1).map (ptD D) = G1 at *
    generalize (polyL line2).map (ptD D) = G2 at *
    generalize frD (qF D X) = XX at *
    simp [qd16, qb16, startE_eq, List.replicate_succ, q1, q2]
  have cm := compD_mapF (turn := lcTurn (runP cons FU defs (n + 8)) cons [("its", 3), ("long", 4)] (.t (.cons (.n 3) (.cons (.n 4) .nil))) .yes (.x 4)) (ptD D) (fun p => frD (qF D p.2)) [some (.v (.tuple (G.map (ptD D)))), some (.v (frD (qF D X))), none, none, none] (polyL line2) (fun p hp => by
    have e : ptD D p = .tuple [frD (qF D p.1), frD (qF D p.2)] := rfl
    rw [e]
    generalize frD (qF D p.1) = P1 at *
    generalize frD (qF D p.2) = P2 at *
    generalize G.map (ptD D) = GD at *
    generalize frD (qF D X) = XX at *
    simp [lcTurn, wipeE])
  have em : (polyL line2).map (fun p => frD (qF D p.2)) = ((polyL line2).map (·.2)).map fun y => frD (qF D y) := by
    rw [List.map_map]
    rfl
  rw [em] at cm
  have l2 := polyL_len line2
  have zl : (((polyL line2).map (·.2)).map fun y => frD (qF D y)).length ≤ sizeLine := by
    rw [List.length_map, List.length_map, line_is]
    omega
  have ne := ne_le (((polyL line2).map (·.2)).map fun y => frD (qF D y))
  have bds : ∀ y ∈ (polyL line2).map (·.2), Bd 60 y := fun y hy => by
    obtain ⟨p, hp, rfl⟩ := List.mem_map.mp hy
    exact (b4 p (g2 p hp)).2
  rw [at_def qd17 rfl rfl]
  generalize (polyL line2).map (ptD D) = G2 at *
  generalize G.map (ptD D) = GD at *
  generalize frD (qF D X) = XX at *
  cases hL : (polyL line2).map (·.2) with
  | nil =>
    rw [hL] at cm ne zl hr2
    have : r = none := isR_uniq hr2 rfl
    subst this
    have ne : cmpD .NotEq (.list []) (.list []) = some false := ne
    simp only [List.map_nil] at cm
    unfold loD
    simp [qd17, qb17, startE_eq, List.replicate_succ, qc, runE_lc, noOwn, wipeE, backE, cm, ne]
  | cons x t =>
    rw [hL] at cm ne zl hr2 bds
    obtain ⟨lo, p1, p2, p3⟩ := leastof_at h0 hD (n + 6) x t bds
    obtain ⟨hi, p4, p5, p6⟩ := greatestof_at h0 hD (n + 6) x t bds
    have : r = some (lo, hi) := isR_uniq hr2 ⟨p2, p5, fun y hy => ⟨p3 y hy, p6 y hy⟩⟩
    subst this
    have ne : cmpD .NotEq (.list ((x :: t).map fun y => frD (qF D y))) (.list []) = some true := ne
    unfold loD
    simp only
    generalize (x :: t).map (fun y => frD (qF D y)) = LL at *
    generalize frD (qF D lo) = L1 at *
    generalize frD (qF D hi) = L2 at *
    simp [qd17, qb17, startE_eq, List.replicate_succ, qc, runE_lc, noOwn, wipeE, backE, cm, ne, zl, p1, p4]
theorem moments_at (n : Nat) (m : Pt) (t : List Pt) (ho : ∀ p ∈ m :: t, OkP p) (hl : t.length ≤ 1000) : ∃ hi : Int, runP cons FU defs (n + 3) 18 [.v (.tuple ((m :: t).map (ptD D)))] = some (.v (.tuple [frD (qF D m.1), frD (qF D hi)]), []) ∧ (∃ p ∈ m :: t, p.1 = hi) ∧ ∀ p ∈ m :: t, p.1 ≤ hi := by
  obtain ⟨hi, p1, p2, p3⟩ := greatestof_at h0 hD n m.1 (t.map (·.1)) (fun y hy => by
    have : y ∈ (m :: t).map (·.1) := hy
    obtain ⟨p, hp, rfl⟩ := List.mem_map.mp this
    exact (ho p hp).1)
  have e1 : m.1 :: t.map (·.1) = (m :: t).map (·.1) := rfl
  rw [e1] at p1 p2 p3
  refine ⟨hi, ?_, List.mem_map.mp p2, fun p hp => p3 _ (List.mem_map.mpr ⟨p, hp, rfl⟩)⟩
  have cm := compD_mapF (turn := lcTurn (runP cons FU defs (n + 2)) cons [("moment", 1), ("long", 2)] (.t (.cons (.n 1) (.cons (.n 2) .nil))) .yes (.x 1)) (ptD D) (fun p => frD (qF D p.1)) [some (.v (.tuple ((m :: t).map (ptD D)))), none, none] (m :: t) (fun p hp => by
    have e : ptD D p = .tuple [frD (qF D p.1), frD (qF D p.2)] := rfl
    rw [e]
    generalize frD (qF D p.1) = P1 at *
    generalize frD (qF D p.2) = P2 at *
    generalize (m :: t).map (ptD D) = GD at *
    simp [lcTurn, wipeE])
  have em : (m :: t).map (fun p => frD (qF D p.1)) = ((m :: t).map (·.1)).map fun y => frD (qF D y) := by
    rw [List.map_map]
    rfl
  rw [em] at cm
  have i0 : ixD (.tuple ((m :: t).map (ptD D))) (.int 0) = some (ptD D m) := at_i0 _ _
  have i1 := pt_0 D m
  have eq0 : cmpD .Eq (.tuple ((m :: t).map (ptD D))) (.tuple []) = some false := eq_te _
  have zl : (((m :: t).map (·.1)).map fun y => frD (qF D y)).length ≤ sizeLine := by
    rw [List.length_map, List.length_map, line_is, List.length_cons]
    omega
  rw [at_def qd18 rfl rfl]
  generalize ((m :: t).map (·.1)).map (fun y => frD (qF D y)) = LL at *
  generalize (m :: t).map (ptD D) = GD at *
  generalize frD (qF D hi) = H at *
  generalize frD (qF D m.1) = M1 at *
  generalize ptD D m = M at *
  simp [qd18, qb18, startE_eq, List.replicate_succ, eq0, i0, i1, runE_lc, noOwn, wipeE, backE, cm, zl, p1]
omit h0 hD in
theorem sL_bd {G : List Pt} {X : Int} (ho : ∀ p ∈ G, OkP p) (ev : Even (edg G) X) : ∀ y ∈ sL (edg G) X, Bd 60 y := fun y hy => by
  obtain ⟨e, he, ⟨h1, h2⟩ | ⟨h1, h2⟩⟩ := mem_sL.mp hy
  · rw [h2]
    exact (ho _ (edg_in G e he).1).2
  · rw [h2]
    exact y_bd (ho _ (edg_in G e he).1) (ho _ (edg_in G e he).2) h1 (ev e he h1)
theorem haspoint_at (n : Nat) (G : List Pt) (p : Pt) (ho : ∀ p ∈ G, OkP p) (hp : OkP p) (hl : G.length ≤ 100) (ev : Even (edg G) p.1) :
    ∃ v, runP cons FU defs (n + 10) 19 [.v (.tuple (G.map (ptD D))), .v (ptD D p)] = some (.v (.bool v), []) ∧ (v = true ↔ hasP G p) := by
  obtain ⟨r, q, hr⟩ := longs_at h0 hD n G ho hp.1 hl ev
  have bd := sL_bd ho ev
  have i0 := pt_0 D p
  have i1 := pt_1 D p
  rw [at_def qd19 rfl rfl]
  unfold hasP
  cases r with
  | none =>
    have hr : sL (edg G) p.1 = [] := hr
    refine ⟨false, ?_, ?_⟩
    · unfold loD at q
      generalize G.map (ptD D) = GD at *
      generalize ptD D p = P at *
      generalize frD (qF D p.1) = XX at *
      simp [qd19, qb19, startE_eq, List.replicate_succ, i0, i1, q]
    · rw [hr]
      constructor
      · intro z; cases z
      · rintro ⟨⟨y, hy, _⟩, _⟩
        cases hy
  | some r =>
    obtain ⟨r1, r2, r3⟩ := hr
    have c1 := comp_at h0 hD (n + 8) (bd _ r1) hp.2
    have c2 := comp_at h0 hD (n + 8) hp.2 (bd _ r2)
    rw [sgn_cmp] at c1 c2
    have s1 : sgn (r.1 - p.2) ≤ 0 ↔ r.1 ≤ p.2 := by rcases sgn_is (r.1 - p.2) with h | h | h <;> omega
    have s2 : sgn (p.2 - r.2) ≤ 0 ↔ p.2 ≤ r.2 := by rcases sgn_is (p.2 - r.2) with h | h | h <;> omega
    have iff0 : ((∃ y1 ∈ sL (edg G) p.1, y1 ≤ p.2) ∧ ∃ y2 ∈ sL (edg G) p.1, p.2 ≤ y2) ↔ r.1 ≤ p.2 ∧ p.2 ≤ r.2 := by
      constructor
      · rintro ⟨⟨y1, h1, g1⟩, y2, h2, g2⟩
        have := r3 y1 h1
        have := r3 y2 h2
        omega
      · rintro ⟨h1, h2⟩
        exact ⟨⟨_, r1, h1⟩, _, r2, h2⟩
    rw [iff0]
    unfold loD at q
    simp only at q
    generalize G.map (ptD D) = GD at *
    generalize ptD D p = P at *
    generalize frD (qF D p.1) = XX at *
    generalize frD (qF D p.2) = YY at *
    generalize frD (qF D r.1) = R1 at *
    generalize frD (qF D r.2) = R2 at *
    generalize sgn (r.1 - p.2) = u at *
    generalize sgn (p.2 - r.2) = v at *
    by_cases h1 : u ≤ 0
    · by_cases h2 : v ≤ 0
      · refine ⟨true, ?_, ⟨fun _ => ⟨s1.mp h1, s2.mp h2⟩, fun _ => rfl⟩⟩
        simp [qd19, qb19, startE_eq, List.replicate_succ, i0, i1, q, c1, c2, h1, h2]
      · refine ⟨false, ?_, ⟨fun z => (by cases z), fun z => absurd (s2.mpr z.2) h2⟩⟩
        simp [qd19, qb19, startE_eq, List.replicate_succ, i0, i1, q, c1, c2, h1, h2]
    · refine ⟨false, ?_, ⟨fun z => (by cases z), fun z => absurd (s1.mpr z.1) h1⟩⟩
      simp [qd19, qb19, startE_eq, List.replicate_succ, i0, i1, q, c1, h1]
end

--part
/-! ascending integers -/
def insI (p : Int) : List Int → List Int
  | [] => [p]
  | x :: r => if x ≤ p then x :: insI p r else p :: x :: r
def ordI (ps : List Int) : List Int := ps.foldl (fun l p => insI p l) []
theorem insI_len (p : Int) : ∀ l : List Int, (insI p l).length = l.length + 1
  | [] => rfl
  | y :: r => by
    unfold insI
    split
    · simp [insI_len p r]
    · simp
theorem insI_mem (p : Int) : ∀ (l : List Int) (x : Int), x ∈ insI p l ↔ x = p ∨ x ∈ l
  | [], x => by simp [insI]
  | y :: r, x => by
    unfold insI
    split
    · simp only [List.mem_cons, insI_mem p r x]
      constructor
      · rintro (h | h | h) <;> simp [h]
      · rintro (h | h | h) <;> simp [h]
    · simp only [List.mem_cons]
theorem insI_sorted (p : Int) : ∀ l : List Int, l.Pairwise (· ≤ ·) → (insI p l).Pairwise (· ≤ ·)
  | [], _ => by simp [insI]
  | y :: r, h => by
    rw [List.pairwise_cons] at h
    unfold insI
    split
    · rename_i hc
      refine List.pairwise_cons.mpr ⟨fun z hz => ?_, insI_sorted p r h.2⟩
      rcases (insI_mem p r z).mp hz with rfl | hz
      · exact hc
      · exact h.1 z hz
    · rename_i hc
      refine List.pairwise_cons.mpr ⟨fun z hz => ?_, List.pairwise_cons.mpr h⟩
      rcases List.mem_cons.mp hz with rfl | hz
      · omega
      · have := h.1 z hz
        omega
theorem insI_cnt (f : Int → Bool) (p : Int) : ∀ l : List Int, ((insI p l).filter f).length = ((p :: l).filter f).length
  | [] => rfl
  | y :: r => by
    unfold insI
    split
    · have ih := insI_cnt f p r
      simp only [List.filter_cons] at ih ⊢
      by_cases h1 : f p = true <;> by_cases h2 : f y = true <;> simp [h1, h2] at ih ⊢ <;> omega
    · rfl
theorem ordI_all (ps : List Int) : (∀ x, x ∈ ordI ps ↔ x ∈ ps) ∧ (ordI ps).length = ps.length ∧ (ordI ps).Pairwise (· ≤ ·) ∧ ∀ f : Int → Bool, ((ordI ps).filter f).length = (ps.filter f).length := by
  have key : ∀ (ps l : List Int), l.Pairwise (· ≤ ·) → (∀ x, x ∈ ps.foldl (fun l p => insI p l) l ↔ x ∈ l ∨ x ∈ ps) ∧ (ps.foldl (fun l p => insI p l) l).length = l.length + ps.length ∧ (ps.foldl (fun l p => insI p l) l).Pairwise (· ≤ ·) ∧ ∀ f : Int → Bool, ((ps.foldl (fun l p => insI p l) l).filter f).length = (l.filter f).length + (ps.filter f).length := by
    intro ps
    induction ps with
    | nil => intro l hl; exact ⟨by simp, by simp, hl, by simp⟩
    | cons p r ih =>
      intro l h3
      obtain ⟨a, b, c, d⟩ := ih (insI p l) (insI_sorted p l h3)
      refine ⟨fun x => ?_, by rw [List.foldl_cons, b, insI_len, List.length_cons]; omega, c, fun f => ?_⟩
      · rw [List.foldl_cons, a x, insI_mem, List.mem_cons]
        constructor
        · rintro ((h | h) | h) <;> simp [h]
        · rintro (h | h | h) <;> simp [h]
      · rw [List.foldl_cons, d f, insI_cnt]
        simp only [List.filter_cons]
        by_cases h1 : f p = true <;> simp [h1] <;> omega
  obtain ⟨a, b, c, d⟩ := key ps [] .nil
  exact ⟨fun x => by rw [ordI, a x]; simp, by rw [ordI, b]; simp, c, fun f => by rw [ordI, d f]; simp⟩
theorem insF_q {D : Int} (h : 0 < D) (p : Int) : ∀ l : List Int, insF (qF D p) (l.map (qF D)) = (insI p l).map (qF D)
  | [] => rfl
  | x :: r => by
    have := qF_le h x p
    rw [List.map_cons, insF, insI]
    by_cases hc : x ≤ p
    · rw [if_pos (by omega), if_pos hc, insF_q h p r, List.map_cons]
    · rw [if_neg (by omega), if_neg hc, List.map_cons, List.map_cons]
theorem ordF_q {D : Int} (h : 0 < D) (ps : List Int) : ordF (ps.map (qF D)) = (ordI ps).map (qF D) := by
  have key : ∀ (ps l : List Int), (ps.map (qF D)).foldl (fun l p => insF p l) (l.map (qF D)) = (ps.foldl (fun l p => insI p l) l).map (qF D) := by
    intro ps
    induction ps with
    | nil => intro l; rfl
    | cons p r ih =>
      intro l
      rw [List.map_cons, List.foldl_cons, List.foldl_cons, insF_q h, ih]
  exact key ps []
theorem nth_le (v : Int) : ∀ (s : List Int) (i : Nat), s.Pairwise (· ≤ ·) → i < s.length → i < (s.filter fun x => decide (x ≤ v)).length → s.getD i 0 ≤ v
  | [], i, _, h, _ => by simp at h
  | x :: r, i, h, h1, h2 => by
    rw [List.pairwise_cons] at h
    by_cases hx : x ≤ v
    · simp only [List.filter_cons, hx, decide_true, if_true, List.length_cons] at h2 h1
      match i with
      | 0 => simpa using hx
      | i + 1 =>
        have := nth_le v r i h.2 (by omega) (by omega)
        simpa using this
    · have hn : (r.filter fun y => decide (y ≤ v)) = [] := by
        rw [List.filter_eq_nil_iff]
        intro z hz hd
        have := of_decide_eq_true hd
        have := h.1 z hz
        omega
      simp [List.filter_cons, hx, hn] at h2
theorem nth_ge (v : Int) : ∀ (s : List Int) (i : Nat), s.Pairwise (· ≤ ·) → i < s.length → (s.filter fun x => decide (x < v)).length ≤ i → v ≤ s.getD i 0
  | [], i, _, h, _ => by simp at h
  | x :: r, i, h, h1, h2 => by
    rw [List.pairwise_cons] at h
    by_cases hx : x < v
    · simp only [List.filter_cons, hx, decide_true, if_true, List.length_cons] at h2 h1
      match i with
      | 0 => omega
      | i + 1 =>
        have := nth_ge v r i h.2 (by omega) (by omega)
        simpa using this
    · match i with
      | 0 => simp; omega
      | i + 1 =>
        simp only [List.length_cons] at h1
        have e : (x :: r).getD (i + 1) 0 = r[i]'(by omega) := by simp [List.getD_eq_getElem?_getD, List.getElem?_eq_getElem (show i < r.length by omega)]
        have := h.1 _ (List.getElem_mem (show i < r.length by omega))
        rw [e]
        omega
/-- shifted by no more than w, put in order: still no more than w off -/
theorem ord_near (w : Int) (m h : List Int) (hm : m.Pairwise (· ≤ ·)) (hl : h.length = m.length) (hw : ∀ i, i < m.length → -w ≤ h.getD i 0 - m.getD i 0 ∧ h.getD i 0 - m.getD i 0 ≤ w) (i : Nat) (hi : i < m.length) : -w ≤ (ordI h).getD i 0 - m.getD i 0 ∧ (ordI h).getD i 0 - m.getD i 0 ≤ w := by
  obtain ⟨_, o2, o3, o4⟩ := ordI_all h
  have gd : ∀ (l : List Int) j (hj : j < l.length), l.getD j 0 = l[j] := fun l j hj => by rw [List.getD_eq_getElem?_getD, List.getElem?_eq_getElem hj]; rfl
  have ms : ∀ j k (hj : j < m.length) (hk : k < m.length), j ≤ k → m.getD j 0 ≤ m.getD k 0 := fun j k hj hk hjk => by
    rw [gd m j hj, gd m k hk]
    rcases Nat.lt_or_eq_of_le hjk with hlt | rfl
    · exact List.pairwise_iff_getElem.mp hm j k hj hk hlt
    · exact Int.le_refl _
  have a := nth_le (m.getD i 0 + w) (ordI h) i o3 (by omega) (by
    rw [o4]
    have e : h.filter (fun x => decide (x ≤ m.getD i 0 + w)) = (h.take (i + 1)).filter (fun x => decide (x ≤ m.getD i 0 + w)) ++ (h.drop (i + 1)).filter (fun x => decide (x ≤ m.getD i 0 + w)) := by rw [← List.filter_append, List.take_append_drop]
    have e2 : (h.take (i + 1)).filter (fun x => decide (x ≤ m.getD i 0 + w)) = h.take (i + 1) := by
      rw [List.filter_eq_self]
      intro x hx
      obtain ⟨j, hj, rfl⟩ := List.getElem_of_mem hx
      rw [List.length_take] at hj
      rw [List.getElem_take, ← gd h j (by omega)]
      have h1 := hw j (by omega)
      have h2 := ms j i (by omega) hi (by omega)
      exact decide_eq_true (by omega)
    rw [e, e2, List.length_append, List.length_take]
    omega)
  have b := nth_ge (m.getD i 0 - w) (ordI h) i o3 (by omega) (by
    rw [o4]
    have e : h.filter (fun x => decide (x < m.getD i 0 - w)) = (h.take i).filter (fun x => decide (x < m.getD i 0 - w)) ++ (h.drop i).filter (fun x => decide (x < m.getD i 0 - w)) := by rw [← List.filter_append, List.take_append_drop]
    have e2 : (h.drop i).filter (fun x => decide (x < m.getD i 0 - w)) = [] := by
      rw [List.filter_eq_nil_iff]
      intro x hx hd
      have hd := of_decide_eq_true hd
      obtain ⟨j, hj, rfl⟩ := List.getElem_of_mem hx
      rw [List.length_drop] at hj
      rw [List.getElem_drop, ← gd h (i + j) (by omega)] at hd
      have h1 := hw (i + j) (by omega)
      have h2 := ms i (i + j) hi (by omega) (by omega)
      omega
    rw [e, e2, List.append_nil]
    have := List.length_filter_le (fun x => decide (x < m.getD i 0 - w)) (h.take i)
    rw [List.length_take] at this
    omega)
  omega

section
variable {p q : Int × Int} {k : Nat} (n : Nat)
theorem lless_at (hp : Bf k p) (hq : Bf k q) (hk : k ≤ 190) (h0 : 0 < p.2) (h1 : 0 < q.2) : runP cons FU defs (n + 2) 27 [.v (frD p), .v (frD q)] = some (.v (frD (subI p q)), []) := by
  have r := ratio_at n (p.1 * q.2 - q.1 * p.2) (p.2 * q.2) (hp.b.mul hq.b) (by omega) (ne_mul h0 h1)
  have m1 := mulK hp.a hq.b (by omega)
  have m2 := mulK hq.a hp.b (by omega)
  have m3 := mulK hp.b hq.b (by omega)
  rw [at_def qd27 rfl rfl]
  simp [qd27, qb27, startE_eq, m1, m2, m3, r, subI]
end

/-! ### the law's way -/
def qs (D : Int) (l : List Int) : List PyData := l.map fun x => frD (qF D x)
theorem qs_len (D : Int) (l : List Int) : (qs D l).length = l.length := List.length_map _
theorem insI_at {p : Int} : ∀ l : List Int, l.Pairwise (· ≤ ·) → l.take (l.filter fun x => decide (x ≤ p)).length ++ p :: l.drop (l.filter fun x => decide (x ≤ p)).length = insI p l
  | [], _ => rfl
  | y :: r, h => by
    rw [List.pairwise_cons] at h
    by_cases hc : y ≤ p
    · have ih := insI_at (p := p) r h.2
      simp only [List.filter_cons, hc, decide_true, if_true, List.length_cons, List.take_succ_cons, List.drop_succ_cons, List.cons_append, insI, ih]
    · have hn : (r.filter fun x => decide (x ≤ p)) = [] := by
        rw [List.filter_eq_nil_iff]
        intro z hz hd
        have hd := of_decide_eq_true hd
        have := h.1 z hz
        omega
      simp only [List.filter_cons, hc, decide_false, Bool.false_eq_true, if_false, hn, List.length_nil, List.take_zero, List.drop_zero, List.nil_append, insI]
theorem qs_same {D : Int} (h0 : 0 < D) (h1 : Bd 60 D) {l : List Int} (h : ∀ y ∈ l, Bd 60 y) : eqPs (qs D l) (qs D l) = true := eqPs_refl _ (by
  have := (sml_lay _ (Sm.lst (k := 1) (b := 2) (xs := qs D l) (fun y hy => by
    obtain ⟨z, hz, rfl⟩ := List.mem_map.mp hy
    exact (qfr h0 h1 (h z hz)).sm (by decide))).s).2.2.2.2
  simpa [PyData.hasDict] using this)
theorem lawinord_at (n : Nat) {D : Int} (h0 : 0 < D) (h1 : Bd 60 D) (g : PyData) (ps : List Int) (hg : g = .list (qs D ps) ∨ g = .tuple (qs D ps)) (hp : ∀ p ∈ ps, Bd 60 p) (hl : ps.length ≤ 1000) : runP cons FU defs (n + 2) 32 [.v g] = some (.v (.tuple (qs D (ordI ps))), []) := by
  have f := forD_fold (body := fun d en => (en.put 2 (.v d)).bind fun en1 => (runB (runP cons FU defs (n + 1)) cons FU qb32_0 en1).bind fun f => some (wipF [0, 2, 3, 4] f)) (fun l : List Int => [none, some (.o (qs D l)), none, none, none]) (fun x => frD (qF D x)) (fun l p => insI p l)
    (fun l r => (∀ x ∈ l, Bd 60 x) ∧ (∀ x ∈ r, Bd 60 x) ∧ l.Pairwise (· ≤ ·) ∧ l.length + r.length ≤ 1000) ps [] ⟨by simp, hp, .nil, by simpa using hl⟩ (by
      rintro l p r ⟨k1, k2, k3, k4⟩
      have hp := qfr h0 h1 (k2 p (by simp))
      have sm := qs_same h0 h1 k1
      have c := compD_filt (turn := fun d en => if sameL en 1 (qs D l) = true then lcTurn (runP cons FU defs (n + 1)) cons [("_law_other", 4)] (.n 4) (.e (.cmp .LtE (.call 29 (.cons (.x 4) (.cons (.x 2) .nil))) (.k (.int 0)))) (.x 4) d en else none) (fun x => frD (qF D x)) (fun x => decide (x ≤ p)) (fun x => frD (qF D x))
        [none, some (.o (qs D l)), some (.v (frD (qF D p))), none, none] l (fun x hx => by
          have s := sign_at n (qfr h0 h1 (k1 x hx)).b hp.b (by decide)
          have le := qF_le h0 x p
          generalize (qF D x).1 * (qF D p).2 - (qF D p).1 * (qF D x).2 = z at *
          generalize qs D l = L at *
          have sl : sameL [none, some (.o L), some (.v (frD (qF D p))), none, some (.v (frD (qF D x)))] 1 L = true := sm
          have sl0 : sameL [none, some (.o L), some (.v (frD (qF D p))), none, none] 1 L = true := sm
          generalize frD (qF D p) = P at *
          generalize frD (qF D x) = X at *
          by_cases hc : x ≤ p
          · have hz : z ≤ 0 := le.mpr hc
            simp [lcTurn, sl0, s, hc, hz, wipeE]
          · have hz : ¬ z ≤ 0 := fun w => hc (le.mp w)
            simp [lcTurn, sl0, s, hc, hz, wipeE])
      have ia := insI_at (p := p) l k3
      have lf : (l.filter fun x => decide (x ≤ p)).length ≤ l.length := List.length_filter_le _ _
      simp only [List.length_cons] at k4
      refine ⟨?_, ?_, fun x hx => k2 x (List.mem_cons_of_mem _ hx), insI_sorted p l k3, by rw [insI_len]; omega⟩
      · generalize (l.filter fun x => decide (x ≤ p)) = F at *
        have z1 : F.length ≤ sizeLine := by rw [line_is]; omega
        have z2 : l.length < sizeLine := by rw [line_is]; omega
        have ia2 : (qs D l).take F.length ++ frD (qF D p) :: (qs D l).drop F.length = qs D (insI p l) := by rw [← ia]; simp [qs]
        have ql := qs_len D l
        have c : compD _ (qs D l) _ = _ := c
        generalize frD (qF D p) = P at *
        generalize qs D l = L at *
        have sl : sameL [none, some (.o L), some (.v P), none, none] 1 L = true := sm
        simp [qb32_0, runE_lcl, noOwn, wipeE, backE, c, sl, z1, runE_mt, mtD, lf, ql, z2, ia2]
      · intro x hx
        rcases (insI_mem p l x).mp hx with rfl | hx
        · exact k2 _ (by simp)
        · exact k1 x hx)
  rw [at_def qd32 rfl rfl]
  have f : forD _ (qs D ps) [none, some (.o []), none, none, none] = some (.nx [none, some (.o (qs D (ordI ps))), none, none, none]) := f
  generalize qs D (ordI ps) = O at *
  generalize qs D ps = X at *
  rcases hg with rfl | rfl <;> simp [qd32, qb32, startE_eq, List.replicate_succ, runS_for, f]

--part
theorem isw_at (n : Nat) (a : Int) : runP cons FU defs (n + 1) 33 [.v (.int a)] = some (.v (.bool true), []) := rfl
theorem isf_at (n : Nat) {p : Int × Int} {k : Nat} (hp : Bf k p) (hk : k ≤ 190) (h : Red p) : runP cons FU defs (n + 2) 34 [.v (frD p)] = some (.v (.bool true), []) := by
  have r := ratio_at n p.1 p.2 hp.b (by omega) (by have := h.pos; omega)
  rw [red_self h] at r
  have w := isw_at n
  have e : cmpD .Eq (frD p) (frD p) = some true := by simpa using eq_fr p p
  have h0 := h.pos
  have t : isiD (frD p) "tuple" = true := by simp [isiD, tyD, frD]
  have l : fnD .len [frD p] = some (.v (.int 2)) := rfl
  have nf : isF (frD p) = false := rfl
  rw [at_def qd34 rfl rfl]
  simp [qd34, qb34, startE_eq, t, nf, l, w, h0, r, e]
theorem any_pts {D : Int} (h0 : 0 < D) (p : Pt) : ∀ l : List Pt, ((l.map (ptD D)).any fun z => PyData.eqv z (ptD D p)) = decide (p ∈ l)
  | [] => by simp
  | q :: r => by
    have ih := any_pts h0 p r
    rw [List.map_cons, List.any_cons, ih, pt_eqv h0]
    by_cases e1 : p = q
    · subst e1
      simp
    · simp [e1, Ne.symm e1]
section
variable {D : Int} (h0 : 0 < D) (hD : Bd 60 D)
include h0 hD
theorem pt_sm {p : Pt} (hp : OkP p) : Sm 2 6 (ptD D p) := Sm.tup (k := 1) (b := 2) (xs := [frD (qF D p.1), frD (qF D p.2)]) (fun x hx => by
  simp only [List.mem_cons, List.not_mem_nil, or_false] at hx
  rcases hx with rfl | rfl
  · exact (qfr h0 hD hp.1).sm (by decide)
  · exact (qfr h0 hD hp.2).sm (by decide))
theorem pts_sm {l : List Pt} (hl : ∀ p ∈ l, OkP p) : Sm 3 (l.length * 7) (.tuple (l.map (ptD D))) ∧ Sm 3 (l.length * 7) (.list (l.map (ptD D))) := by
  have h : ∀ x ∈ l.map (ptD D), Sm 2 6 x := fun x hx => by
    obtain ⟨p, hp, rfl⟩ := List.mem_map.mp hx
    exact pt_sm h0 hD (hl p hp)
  have a := Sm.tup h
  have b := Sm.lst h
  rw [List.length_map] at a b
  exact ⟨a, b⟩
theorem in_pts {l : List Pt} (hl : ∀ p ∈ l, OkP p) (p : Pt) : cmpD .In (ptD D p) (.tuple (l.map (ptD D))) = some (decide (p ∈ l)) ∧ cmpD .NotIn (ptD D p) (.list (l.map (ptD D))) = some (!decide (p ∈ l)) := by
  have sh := pt_shp D p
  have s1 := (pts_sm h0 hD hl).1.shaped (by decide)
  have s2 := (pts_sm h0 hD hl).2.shaped (by decide)
  constructor
  · show (if SeqAt.shaped (ptD D p) = true ∧ SeqAt.shaped (.tuple (l.map (ptD D))) = true then some ((l.map (ptD D)).any fun z => PyData.eqv z (ptD D p)) else none) = _
    rw [if_pos ⟨sh, s1⟩, any_pts h0]
  · show (if SeqAt.shaped (ptD D p) = true ∧ SeqAt.shaped (.list (l.map (ptD D))) = true then some (!(l.map (ptD D)).any fun z => PyData.eqv z (ptD D p)) else none) = _
    rw [if_pos ⟨sh, s2⟩, any_pts h0]
theorem ldif_at (n : Nat) {x y : Int} (hx : Bd 60 x) (hy : Bd 60 y) : runP cons FU defs (n + 2) 27 [.v (frD (qF D x)), .v (frD (qF D y))] = some (.v (frD (qF D (x - y))), []) := by
  have a := qfr h0 hD hx
  have b := qfr h0 hD hy
  have q := lless_at n (k := 60) a.b b.b (by decide) a.pos b.pos
  rw [qF_sub h0] at q
  exact q
theorem lprod_at (n : Nat) {x y z w : Int} (hx : Bd 60 x) (hy : Bd 60 y) (hz : Bd 60 z) (hw : Bd 60 w) : runP cons FU defs (n + 2) 28 [.v (frD (qF D (x - y))), .v (frD (qF D (z - w)))] = some (.v (frD (qF (D * D) ((x - y) * (z - w)))), []) := by
  have a := dfr h0 hD hx hy
  have b := dfr h0 hD hz hw
  have q := by_at n (k := 61) a.b b.b (by decide) a.pos b.pos
  rw [qF_mul h0 h0] at q
  exact q
theorem lcross_at (n : Nat) {a b c : Pt} (ha : OkP a) (hb : OkP b) (hc : OkP c) : ∃ s : Int, runP cons FU defs (n + 3) 35 [.v (ptD D a), .v (ptD D b), .v (ptD D c)] = some (.v (.int s), []) ∧ (s < 0 ↔ cross a b c < 0) ∧ (s ≤ 0 ↔ cross a b c ≤ 0) := by
  have d1 := ldif_at h0 hD n hb.1 ha.1
  have d2 := ldif_at h0 hD n hc.2 ha.2
  have d3 := ldif_at h0 hD n hb.2 ha.2
  have d4 := ldif_at h0 hD n hc.1 ha.1
  have p1 := lprod_at h0 hD n hb.1 ha.1 hc.2 ha.2
  have p2 := lprod_at h0 hD n hb.2 ha.2 hc.1 ha.1
  have dd : 0 < D * D := Int.mul_pos h0 h0
  have bd : Bd 122 (D * D) := (hD.mul hD).mono (by decide)
  have f1 : Fr 122 (qF (D * D) ((b.1 - a.1) * (c.2 - a.2))) := qF_fr dd ((hb.1.sub ha.1).mul (hc.2.sub ha.2)) bd
  have f2 : Fr 122 (qF (D * D) ((b.2 - a.2) * (c.1 - a.1))) := qF_fr dd ((hb.2.sub ha.2).mul (hc.1.sub ha.1)) bd
  have q := sign_at (n + 1) (k := 122) f1.b f2.b (by decide)
  have e : cross a b c = (b.1 - a.1) * (c.2 - a.2) - (b.2 - a.2) * (c.1 - a.1) := rfl
  rw [e]
  have lt := qF_lt dd ((b.1 - a.1) * (c.2 - a.2)) ((b.2 - a.2) * (c.1 - a.1))
  have le := qF_le dd ((b.1 - a.1) * (c.2 - a.2)) ((b.2 - a.2) * (c.1 - a.1))
  refine ⟨_, ?_, by rw [lt]; omega, by rw [le]; omega⟩
  rw [at_def qd35 rfl rfl]
  have a0 := pt_0 D a
  have a1 := pt_1 D a
  have b0 := pt_0 D b
  have b1 := pt_1 D b
  have c0 := pt_0 D c
  have c1 := pt_1 D c
  generalize (qF (D * D) ((b.1 - a.1) * (c.2 - a.2))).1 * (qF (D * D) ((b.2 - a.2) * (c.1 - a.1))).2 - (qF (D * D) ((b.2 - a.2) * (c.1 - a.1))).1 * (qF (D * D) ((b.1 - a.1) * (c.2 - a.2))).2 = R at *
  generalize ptD D a = A at *
  generalize ptD D b = B at *
  generalize ptD D c = C at *
  generalize frD (qF (D * D) ((b.1 - a.1) * (c.2 - a.2))) = U at *
  generalize frD (qF (D * D) ((b.2 - a.2) * (c.1 - a.1))) = V at *
  generalize frD (qF D a.1) = A0 at *
  generalize frD (qF D a.2) = A1 at *
  generalize frD (qF D b.1) = B0 at *
  generalize frD (qF D b.2) = B1 at *
  generalize frD (qF D c.1) = C0 at *
  generalize frD (qF D c.2) = C1 at *
  generalize frD (qF D (b.1 - a.1)) = X1 at *
  generalize frD (qF D (b.2 - a.2)) = X2 at *
  generalize frD (qF D (c.1 - a.1)) = X3 at *
  generalize frD (qF D (c.2 - a.2)) = X4 at *
  simp [qd35, qb35, startE_eq, List.replicate_succ, a0, a1, b0, b1, c0, c1, d1, d2, d3, d4, p1, p2, q]
theorem lbefore_at (n : Nat) {a b : Pt} (ha : OkP a) (hb : OkP b) : runP cons FU defs (n + 2) 36 [.v (ptD D a), .v (ptD D b)] = some (.v (.bool (decide (lexB a b))), []) := by
  have s1 := sign_at n (qfr h0 hD ha.1).b (qfr h0 hD hb.1).b (by decide)
  have s2 := sign_at n (qfr h0 hD ha.2).b (qfr h0 hD hb.2).b (by decide)
  have l1 := qF_lt h0 a.1 b.1
  have l2 := qF_lt h0 a.2 b.2
  have e1 := qF_le h0 a.1 b.1
  generalize (qF D a.1).1 * (qF D b.1).2 - (qF D b.1).1 * (qF D a.1).2 = u at *
  generalize (qF D a.2).1 * (qF D b.2).2 - (qF D b.2).1 * (qF D a.2).2 = v at *
  have key : lexB a b ↔ u < 0 ∨ u = 0 ∧ v < 0 := by unfold lexB; omega
  have a0 := pt_0 D a
  have a1 := pt_1 D a
  have b0 := pt_0 D b
  have b1 := pt_1 D b
  have kd : decide (lexB a b) = decide (u < 0 ∨ u = 0 ∧ v < 0) := by
    by_cases z : lexB a b
    · rw [decide_eq_true z, decide_eq_true (key.mp z)]
    · rw [decide_eq_false z, decide_eq_false fun w => z (key.mpr w)]
  rw [kd, at_def qd36 rfl rfl]
  generalize ptD D a = A at *
  generalize ptD D b = B at *
  generalize frD (qF D a.1) = A0 at *
  generalize frD (qF D a.2) = A1 at *
  generalize frD (qF D b.1) = B0 at *
  generalize frD (qF D b.2) = B1 at *
  by_cases c1 : u < 0
  · simp [qd36, qb36, startE_eq, List.replicate_succ, a0, a1, b0, b1, s1, s2, c1]
  · by_cases c2 : u = 0
    · subst c2
      by_cases c3 : v < 0 <;> simp [qd36, qb36, startE_eq, List.replicate_succ, a0, a1, b0, b1, s1, s2, c3]
    · simp [qd36, qb36, startE_eq, List.replicate_succ, a0, a1, b0, b1, s1, s2, c1, c2]
theorem lcorner_is (n : Nat) {p : Pt} (hp : OkP p) : runP cons FU defs (n + 3) 37 [.v (ptD D p)] = some (.v (.bool true), []) := by
  have f1 := isf_at n (qfr h0 hD hp.1).b (by decide) (qfr h0 hD hp.1).r
  have f2 := isf_at n (qfr h0 hD hp.2).b (by decide) (qfr h0 hD hp.2).r
  have i0 := pt_0 D p
  have i1 := pt_1 D p
  have t : isiD (ptD D p) "tuple" = true := by simp [isiD, tyD, ptD]
  have l : fnD .len [ptD D p] = some (.v (.int 2)) := rfl
  have nf : isF (ptD D p) = false := rfl
  rw [at_def qd37 rfl rfl]
  generalize ptD D p = P at *
  generalize frD (qF D p.1) = A at *
  generalize frD (qF D p.2) = B at *
  simp [qd37, qb37, startE_eq, i0, i1, t, nf, l, f1, f2]
end
structure Poly (G : List Pt) : Prop where
  ok : ∀ p ∈ G, OkP p
  len : G.length ≤ 100
  fst : ∀ m t, G = m :: t → ∀ p ∈ t, lexB m p
  str : 3 ≤ G.length → ∀ e ∈ edg G, ∀ c ∈ G, c = e.1 ∨ c = e.2 ∨ 0 < cross e.1 e.2 c
  nd : G.Nodup
theorem poly_of {line : List Pt} (hs : line.Pairwise lexB) (ho : ∀ p ∈ line, OkP p) (hl : line.length ≤ 50) : Poly (polyL line) := by
  have len := polyL_len line
  have sub := polyL_sub hs
  by_cases h2 : 2 ≤ line.length
  · obtain ⟨m, M, s1, s2, T⟩ := two_ex hs h2
    have e := T.poly hs h2
    have nd := T.nodup
    have tk := T.take1
    refine ⟨fun p hp => ho p (sub p hp), by omega, fun x t ht p hp => ?_, fun h3 e' he c hc => ?_, by rw [e]; exact nd⟩
    · rw [e] at ht
      rw [ht] at tk nd
      have : x = m := by simpa using tk
      subst this
      have pl : p ∈ line := T.sub p (by rw [ht]; exact List.mem_cons_of_mem _ hp)
      rcases T.lo p pl with rfl | h
      · exact absurd hp (List.nodup_cons.mp nd).1
      · exact h
    · rw [e] at he hc
      rw [T.edg_is] at he
      exact T.strict e' he c hc
  · have e : polyL line = line := by
      unfold polyL
      rw [if_pos (by omega)]
    rw [e]
    refine ⟨ho, by omega, fun m t ht p hp => ?_, fun h3 => by omega, hs.imp fun h => lex_ne h⟩
    rw [ht] at h2
    cases t with
    | nil => cases hp
    | cons _ _ => simp at h2

--part
theorem edg_k {G : List Pt} {k : Nat} (hk : k < G.length) : (k + 1) % G.length < G.length ∧ (G.getD k (0, 0), G.getD ((k + 1) % G.length) (0, 0)) ∈ edg G ∧ G.getD k (0, 0) ∈ G ∧ G.getD ((k + 1) % G.length) (0, 0) ∈ G := by
  have h2 : (k + 1) % G.length < G.length := Nat.mod_lt _ (by omega)
  refine ⟨h2, by rw [edg_map]; exact List.mem_map.mpr ⟨k, List.mem_range.mpr hk, rfl⟩, ?_, ?_⟩
  · simp only [List.getD_eq_getElem?_getD, List.getElem?_eq_getElem hk, Option.getD_some]
    exact List.getElem_mem hk
  · simp only [List.getD_eq_getElem?_getD, List.getElem?_eq_getElem h2, Option.getD_some]
    exact List.getElem_mem h2
theorem at_G {D : Int} (G R : List Pt) {k : Nat} (hk : k < G.length) : atI ((G ++ R).map (ptD D)) (k : Int) = some (ptD D (G.getD k (0, 0))) := by
  refine at_n (j := k) rfl ?_
  rw [List.getElem?_map, List.getElem?_append_left hk, List.getElem?_eq_getElem hk, List.getD_eq_getElem?_getD, List.getElem?_eq_getElem hk]
  rfl
theorem at_G1 {D : Int} (G R : List Pt) (hR : ∀ m t, G = m :: t → R.head? = some m) {k : Nat} (hk : k < G.length) : atI ((G ++ R).map (ptD D)) ((k : Int) + 1) = some (ptD D (G.getD ((k + 1) % G.length) (0, 0))) := by
  refine at_n (j := k + 1) (by omega) ?_
  by_cases z : k + 1 < G.length
  · rw [Nat.mod_eq_of_lt z, List.getElem?_map, List.getElem?_append_left z, List.getElem?_eq_getElem z, List.getD_eq_getElem?_getD, List.getElem?_eq_getElem z]
    rfl
  · have e : k + 1 = G.length := by omega
    cases G with
    | nil => simp at hk
    | cons m t =>
      have h := hR m t rfl
      cases R with
      | nil => cases h
      | cons x r =>
        cases h
        rw [e, Nat.mod_self, List.getElem?_map, List.getElem?_append_right (Nat.le_refl _), Nat.sub_self]
        rfl
theorem ord3 (a b c : Int) : ∃ x y z, ordI [a, b, c] = [x, y, z] ∧ (y = c ↔ amidI a b c) := by
  have e : ordI [a, b, c] = insI c (insI b [a]) := rfl
  rw [e]
  unfold amidI
  simp only [insI]
  by_cases h1 : a ≤ b
  · rw [if_pos h1]
    simp only [insI]
    by_cases h2 : a ≤ c
    · rw [if_pos h2]
      by_cases h3 : b ≤ c
      · rw [if_pos h3]
        exact ⟨_, _, _, rfl, by omega⟩
      · rw [if_neg h3]
        exact ⟨_, _, _, rfl, by omega⟩
    · rw [if_neg h2]
      exact ⟨_, _, _, rfl, by omega⟩
  · rw [if_neg h1]
    simp only [insI]
    by_cases h2 : b ≤ c
    · rw [if_pos h2]
      by_cases h3 : a ≤ c
      · rw [if_pos h3]
        exact ⟨_, _, _, rfl, by omega⟩
      · rw [if_neg h3]
        exact ⟨_, _, _, rfl, by omega⟩
    · rw [if_neg h2]
      exact ⟨_, _, _, rfl, by omega⟩
theorem fnil {α : Type} (l : List α) : (l.filter fun _ => false) = [] := List.filter_eq_nil_iff.mpr fun _ _ z => Bool.false_ne_true z
section
variable {D : Int} (h0 : 0 < D) (hD : Bd 60 D)
include h0 hD
theorem lamid_at (n : Nat) {a b c : Int} (ha : Bd 60 a) (hb : Bd 60 b) (hc : Bd 60 c) : ∃ v, runP cons FU defs (n + 3) 39 [.v (frD (qF D a)), .v (frD (qF D b)), .v (frD (qF D c))] = some (.v (.bool v), []) ∧ (v = true ↔ amidI a b c) := by
  have q := lawinord_at n h0 hD (.list (qs D [a, b, c])) [a, b, c] (.inl rfl) (fun p hp => by
    simp only [List.mem_cons, List.not_mem_nil, or_false] at hp
    rcases hp with rfl | rfl | rfl <;> assumption) (by simp)
  obtain ⟨x, y, z, e, iff0⟩ := ord3 a b c
  rw [e] at q
  have ee := eq_fr (qF D y) (qF D c)
  refine ⟨decide (y = c), ?_, by rw [decide_eq_true_iff]; exact iff0⟩
  have dd : decide (qF D y = qF D c) = decide (y = c) := by
    by_cases w : y = c
    · rw [decide_eq_true w, decide_eq_true (by rw [w])]
    · rw [decide_eq_false w, decide_eq_false fun u => w ((qF_inj h0 y c).mp u)]
  rw [dd] at ee
  have qe : qs D [a, b, c] = [frD (qF D a), frD (qF D b), frD (qF D c)] := rfl
  have qe2 : qs D [x, y, z] = [frD (qF D x), frD (qF D y), frD (qF D z)] := rfl
  rw [qe, qe2] at q
  rw [at_def qd39 rfl rfl]
  generalize frD (qF D a) = A at *
  generalize frD (qF D b) = B at *
  generalize frD (qF D c) = C at *
  generalize frD (qF D x) = X at *
  generalize frD (qF D y) = Y at *
  generalize frD (qF D z) = Z at *
  generalize decide (y = c) = v at *
  simp [qd39, qb39, startE_eq, List.replicate_succ, q, ixD, ee]
end

--part
section
variable {D : Int} (h0 : 0 < D) (hD : Bd 60 D)
include h0 hD
theorem lispoly_at (n : Nat) {G : List Pt} (P : Poly G) : runP cons FU defs (n + 4) 38 [.v (.tuple (G.map (ptD D)))] = some (.v (.bool true), []) := by
  have z := P.len
  have lnG : (G.map (ptD D)).length = G.length := List.length_map _
  have nel := ne_le []
  have c1 := compD_filt (turn := lcTurn (runP cons FU defs (n + 3)) cons [("_law_one", 3)] (.n 3) (.not (.e (.call 37 (.cons (.x 3) .nil)))) (.x 3)) (ptD D) (fun _ => false) (ptD D) [some (.v (.tuple (G.map (ptD D)))), none, none, none, none, none] G (fun p hp => by
    have q := lcorner_is h0 hD n (P.ok p hp)
    generalize G.map (ptD D) = GD at *
    generalize ptD D p = X at *
    simp [lcTurn, q, wipeE])
  have c2 := compD_filt (turn := lcTurn (runP cons FU defs (n + 3)) cons [("_law_k", 2)] (.n 2) (.not (.e (.call 36 (.cons (.ix (.x 0) (.k (.int 0))) (.cons (.ix (.x 0) (.x 2)) .nil))))) (.x 2)) (fun i : Nat => PyData.int (1 + (i : Int))) (fun _ => false) (fun i : Nat => PyData.int (1 + (i : Int))) [some (.v (.tuple (G.map (ptD D)))), some (.v (.int (G.length : Int))), none, none, none, none] (List.range (G.length - 1)) (fun i hi => by
    have hi := List.mem_range.mp hi
    clear c1
    obtain ⟨m, t, rfl⟩ : ∃ m t, G = m :: t := List.exists_cons_of_ne_nil (fun z => by rw [z] at hi; simp at hi)
    simp only [List.length_cons, Nat.add_sub_cancel] at hi
    have b := lbefore_at h0 hD (n + 1) (P.ok m (by simp)) (P.ok t[i] (List.mem_cons_of_mem _ (List.getElem_mem hi)))
    rw [decide_eq_true (P.fst m t rfl _ (List.getElem_mem hi))] at b
    have i0 : ixD (.tuple ((m :: t).map (ptD D))) (.int 0) = some (ptD D m) := at_i0 _ _
    have i1 : ixD (.tuple ((m :: t).map (ptD D))) (.int (1 + (i : Int))) = some (ptD D t[i]) := at_n (j := i + 1) (by omega) (by
      rw [List.getElem?_map, List.getElem?_cons_succ, List.getElem?_eq_getElem hi]
      rfl)
    clear lnG nel
    generalize (m :: t).map (ptD D) = GD at *
    generalize ptD D m = X at *
    generalize ptD D t[i] = Y at *
    simp [lcTurn, i0, i1, b, wipeE])
  have c3 := compD_filt (turn := lcTurn (runP cons FU defs (n + 3)) cons [("_law_k", 2)] (.n 2) (.e (.cmp .In (.ix (.x 0) (.x 2)) (.sl (.x 0) .no (.so (.x 2))))) (.x 2)) (fun i : Nat => PyData.int (0 + (i : Int))) (fun _ => false) (fun i : Nat => PyData.int (0 + (i : Int))) [some (.v (.tuple (G.map (ptD D)))), some (.v (.int (G.length : Int))), none, none, none, none] (List.range G.length) (fun i hi => by
    have hi := List.mem_range.mp hi
    have i1 : ixD (.tuple (G.map (ptD D))) (.int (i : Int)) = some (ptD D G[i]) := at_n (j := i) rfl (by
      rw [List.getElem?_map, List.getElem?_eq_getElem hi]
      rfl)
    have ct : cutL (G.map (ptD D)) none (some (i : Int)) = (G.take i).map (ptD D) := by rw [cut_hi, List.map_take]
    have ni := (in_pts h0 hD (l := G.take i) (fun p hp => P.ok p (List.mem_of_mem_take hp)) G[i]).1
    have nn : ¬ G[i] ∈ G.take i := fun h => by
      obtain ⟨j, hj, e⟩ := List.getElem_of_mem h
      rw [List.length_take] at hj
      rw [List.getElem_take] at e
      have := (List.nodup_iff_pairwise_ne.mp P.nd)
      have := List.pairwise_iff_getElem.mp this j i (by omega) hi (by omega)
      exact this e
    rw [decide_eq_false nn] at ni
    generalize (G.take i).map (ptD D) = GT at *
    generalize G.map (ptD D) = GD at *
    generalize ptD D G[i] = X at *
    simp [lcTurn, i1, ct, ni, wipeE])
  rw [← rngD_map, fnil] at c2 c3
  rw [fnil] at c1
  have r2 := rngO_n (i := 1) (j := (G.length : Int)) (n := G.length - 1) (by omega) (by omega) (by omega) (by omega) (by omega)
  have r3 := rngO_n (i := 0) (j := (G.length : Int)) (n := G.length) (by omega) (by omega) (by omega) (by omega) (by omega)
  have r0 := rngO_n (i := 0) (j := 0) (n := 0) (by omega) (by omega) (by omega) (by omega) (by omega)
  have f (h3 : 3 ≤ G.length) : ∃ e, forD (fun d en => (En.put en 2 (.v d)).bind fun en1 => (runB (runP cons FU defs (n + 3)) cons FU qb38_0 en1).bind fun f => some (wipF [2, 3, 4, 5] f)) (rngD 0 G.length) [some (.v (.tuple (G.map (ptD D)))), some (.v (.int (G.length : Int))), none, none, none, none] = some (.nx e) ∧ e = [some (.v (.tuple (G.map (ptD D)))), some (.v (.int (G.length : Int))), none, none, none, none] := by
    refine forD_rng (fun i e => e = [some (.v (.tuple (G.map (ptD D)))), some (.v (.int (G.length : Int))), none, none, none, none]) 0 G.length _ rfl ?_
    rintro i hi e rfl
    refine ⟨_, ?_, rfl⟩
    obtain ⟨k1, k2, k3, k4⟩ := edg_k hi
    have st := P.str h3 _ k2
    have i1 := at_G (D := D) G G hi
    have i1' := at_G (D := D) G [] hi
    rw [List.append_nil] at i1'
    have i2 := at_G1 (D := D) G G (fun m t e => by rw [e]; rfl) hi
    generalize G.getD i (0, 0) = a at *
    generalize G.getD ((i + 1) % G.length) (0, 0) = b at *
    have cm := compD_filt (turn := lcTurn (runP cons FU defs (n + 3)) cons [("_law_three", 5)] (.n 5) (.and (.e (.cmp .NotEq (.x 5) (.x 3))) (.and (.e (.cmp .NotEq (.x 5) (.x 4))) (.e (.cmp .LtE (.call 35 (.cons (.x 3) (.cons (.x 4) (.cons (.x 5) .nil)))) (.k (.int 0)))))) (.x 5)) (ptD D) (fun _ => false) (ptD D) [some (.v (.tuple (G.map (ptD D)))), some (.v (.int (G.length : Int))), some (.v (.int (0 + (i : Int)))), some (.v (ptD D a)), some (.v (ptD D b)), none] G (fun c hc => by
      have n1 := pt_ne h0 c a
      have n2 := pt_ne h0 c b
      obtain ⟨s, q, _, le⟩ := lcross_at h0 hD n (P.ok a k3) (P.ok b k4) (P.ok c hc)
      have st := st c hc
      simp only at st
      by_cases e1 : c = a
      · rw [decide_eq_true e1] at n1
        generalize G.map (ptD D) = GD at *
        generalize ptD D a = A at *
        generalize ptD D b = B at *
        generalize ptD D c = C at *
        simp [lcTurn, n1, wipeE]
      · rw [decide_eq_false e1] at n1
        by_cases e2 : c = b
        · rw [decide_eq_true e2] at n2
          generalize G.map (ptD D) = GD at *
          generalize ptD D a = A at *
          generalize ptD D b = B at *
          generalize ptD D c = C at *
          simp [lcTurn, n1, n2, wipeE]
        · rw [decide_eq_false e2] at n2
          have nle : ¬ s ≤ 0 := by
            rcases st with h | h | h
            · exact absurd h e1
            · exact absurd h e2
            · rw [le]
              omega
          generalize G.map (ptD D) = GD at *
          generalize ptD D a = A at *
          generalize ptD D b = B at *
          generalize ptD D c = C at *
          simp [lcTurn, n1, n2, q, nle, wipeE])
    rw [fnil] at cm
    have zz : (G.map (ptD D)).length + (G.map (ptD D)).length ≤ sizeLine := by rw [lnG, line_is]; omega
    have ap : G.map (ptD D) ++ G.map (ptD D) = (G ++ G).map (ptD D) := List.map_append.symm
    have cm : compD _ (G.map (ptD D)) _ = some ([], _) := cm
    rw [← ap] at i1 i2
    have j1 : ixD (.tuple (G.map (ptD D))) (.int (i : Int)) = some (ptD D a) := i1'
    have j2 : ixD (.tuple (G.map (ptD D) ++ G.map (ptD D))) (.int ((i : Int) + 1)) = some (ptD D b) := i2
    rw [Int.zero_add] at cm ⊢
    generalize G.map (ptD D) = GD at *
    generalize ptD D a = A at *
    generalize ptD D b = B at *
    simp [qb38_0, j1, j2, zz, runE_lc, noOwn, wipeE, backE, cm, nel]
  have f0 : forD (fun d en => (En.put en 2 (.v d)).bind fun en1 => (runB (runP cons FU defs (n + 3)) cons FU qb38_0 en1).bind fun f => some (wipF [2, 3, 4, 5] f)) (rngD 0 0) [some (.v (.tuple (G.map (ptD D)))), some (.v (.int (G.length : Int))), none, none, none, none] = some (.nx [some (.v (.tuple (G.map (ptD D)))), some (.v (.int (G.length : Int))), none, none, none, none]) := rfl
  have c1 : compD _ (G.map (ptD D)) _ = some ([], _) := c1
  have c2 : compD _ (rngD 1 (G.length - 1)) _ = some ([], _) := c2
  have c3 : compD _ (rngD 0 G.length) _ = some ([], _) := c3
  have ln : fnD .len [.tuple (G.map (ptD D))] = some (.v (.int (G.length : Int))) := by
    show some (Sl.v (.int ((G.map (ptD D)).length : Int))) = _
    rw [lnG]
  rw [at_def qd38 rfl rfl]
  by_cases h3 : 3 ≤ G.length
  · obtain ⟨e, fe, rfl⟩ := f h3
    have g : (2 : Int) < (G.length : Int) := by omega
    generalize G.map (ptD D) = GD at *
    generalize (G.length : Int) = L at *
    simp [qd38, qb38, startE_eq, List.replicate_succ, runE_lc, noOwn, wipeE, backE, c1, c2, c3, r2, r3, ln, nel, runS_for, fe, g, isiD, tyD, isF]
  · have g : ¬ (2 : Int) < (G.length : Int) := by omega
    generalize G.map (ptD D) = GD at *
    generalize (G.length : Int) = L at *
    simp [qd38, qb38, startE_eq, List.replicate_succ, runE_lc, noOwn, wipeE, backE, c1, c2, c3, r0, r2, r3, ln, nel, runS_for, f0, g, isiD, tyD, isF]
end

--part
section
variable {D : Int} (h0 : 0 < D) (hD : Bd 60 D)
include h0 hD
theorem llies_at (n : Nat) {G : List Pt} {p : Pt} (ho : ∀ p ∈ G, OkP p) (hl : G.length ≤ 100) (hp : OkP p) : ∃ v, runP cons FU defs (n + 4) 40 [.v (.tuple (G.map (ptD D))), .v (ptD D p)] = some (.v (.bool v), []) ∧ (v = true ↔ liesP G p) := by
  have lnG : (G.map (ptD D)).length = G.length := List.length_map _
  have ln : fnD .len [.tuple (G.map (ptD D))] = some (.v (.int (G.length : Int))) := by
    show some (Sl.v (.int ((G.map (ptD D)).length : Int))) = _
    rw [lnG]
  rw [at_def qd40 rfl rfl]
  by_cases h2 : G.length < 2
  · have i0 := (in_pts h0 hD ho p).1
    have g : (G.length : Int) < 2 := by omega
    refine ⟨decide (p ∈ G), ?_, ?_⟩
    · generalize G.map (ptD D) = GD at *
      generalize (G.length : Int) = L at *
      generalize ptD D p = P at *
      generalize decide (p ∈ G) = v at *
      simp [qd40, qb40, startE_eq, List.replicate_succ, ln, g, i0]
    · rw [decide_eq_true_iff]
      unfold liesP
      constructor
      · intro h
        exact .inl ⟨h2, h⟩
      · rintro (h | ⟨a, b, e, _⟩ | h)
        · exact h.2
        · rw [e] at h2
          simp at h2
        · omega
  · by_cases h3 : G.length = 2
    · obtain ⟨a, b, rfl⟩ : ∃ a b, G = [a, b] := by
        match G, h3 with
        | [a, b], _ => exact ⟨a, b, rfl⟩
      have oa := ho a (by simp)
      have ob := ho b (by simp)
      obtain ⟨v1, q1, e1⟩ := lamid_at h0 hD n oa.1 ob.1 hp.1
      obtain ⟨v2, q2, e2⟩ := lamid_at h0 hD n oa.2 ob.2 hp.2
      obtain ⟨s, q3, c1, c2⟩ := lcross_at h0 hD n oa ob hp
      have c3 : s = 0 ↔ cross a b p = 0 := by omega
      have a0 := pt_0 D a
      have a1 := pt_1 D a
      have b0 := pt_0 D b
      have b1 := pt_1 D b
      have p0 := pt_0 D p
      have p1 := pt_1 D p
      refine ⟨v1 && v2 && decide (s = 0), ?_, ?_⟩
      · have gm : [a, b].map (ptD D) = [ptD D a, ptD D b] := rfl
        rw [gm] at ln ⊢
        generalize ptD D a = A at *
        generalize ptD D b = B at *
        generalize ptD D p = P at *
        generalize frD (qF D a.1) = A0 at *
        generalize frD (qF D a.2) = A1 at *
        generalize frD (qF D b.1) = B0 at *
        generalize frD (qF D b.2) = B1 at *
        generalize frD (qF D p.1) = P0 at *
        generalize frD (qF D p.2) = P1 at *
        cases v1 <;> cases v2 <;> simp [qd40, qb40, startE_eq, List.replicate_succ, ln, a0, a1, b0, b1, p0, p1, q1, q2, q3]
      · unfold liesP
        rw [Bool.and_eq_true, Bool.and_eq_true, decide_eq_true_iff, e1, e2, c3]
        constructor
        · rintro ⟨⟨x1, x2⟩, x3⟩
          exact .inr (.inl ⟨a, b, rfl, x1, x2, x3⟩)
        · rintro (h | ⟨x, y, e, x1, x2, x3⟩ | h)
          · exact absurd h.1 (by simp)
          · simp only [List.cons.injEq, and_true] at e
            obtain ⟨rfl, rfl⟩ := e
            exact ⟨⟨x1, x2⟩, x3⟩
          · exact absurd h.1 (by simp)
    · have g2 : ¬ (G.length : Int) < 2 := by omega
      have g3 : ¬ (G.length : Int) = 2 := by omega
      have cu : cutL (G.map (ptD D)) none (some ((1 : Nat) : Int)) = (G.take 1).map (ptD D) := by rw [cut_hi, List.map_take]
      have cu : cutL (G.map (ptD D)) none (some 1) = (G.take 1).map (ptD D) := cu
      have zz : (G.map (ptD D)).length + ((G.take 1).map (ptD D)).length ≤ sizeLine := by
        rw [lnG, List.length_map, List.length_take, line_is]
        omega
      have ap : G.map (ptD D) ++ (G.take 1).map (ptD D) = (G ++ G.take 1).map (ptD D) := List.map_append.symm
      have cm := compD_filt (turn := lcTurn (runP cons FU defs (n + 3)) cons [("_law_k", 6)] (.n 6) (.e (.cmp .Lt (.call 35 (.cons (.ix (.x 2) (.x 6)) (.cons (.ix (.x 2) (.bin .Add (.x 6) (.k (.int 1)))) (.cons (.x 1) .nil)))) (.k (.int 0)))) (.x 6)) (fun i : Nat => PyData.int (0 + (i : Int))) (fun i => decide (cross (G.getD i (0, 0)) (G.getD ((i + 1) % G.length) (0, 0)) p < 0)) (fun i : Nat => PyData.int (0 + (i : Int)))
        [some (.v (.tuple (G.map (ptD D)))), some (.v (ptD D p)), some (.v (.tuple ((G ++ G.take 1).map (ptD D)))), none, none, none, none] (List.range G.length) (fun i hi => by
          have hi := List.mem_range.mp hi
          obtain ⟨k1, k2, k3, k4⟩ := edg_k hi
          have i1 := at_G (D := D) G (G.take 1) hi
          have i2 := at_G1 (D := D) G (G.take 1) (fun m t e => by rw [e]; rfl) hi
          generalize G.getD i (0, 0) = a at *
          generalize G.getD ((i + 1) % G.length) (0, 0) = b at *
          obtain ⟨s, q, lt, _⟩ := lcross_at h0 hD n (ho a k3) (ho b k4) hp
          have j1 : ixD (.tuple ((G ++ G.take 1).map (ptD D))) (.int (i : Int)) = some (ptD D a) := i1
          have j2 : ixD (.tuple ((G ++ G.take 1).map (ptD D))) (.int ((i : Int) + 1)) = some (ptD D b) := i2
          have dc : decide (cross a b p < 0) = decide (s < 0) := by
            by_cases w : s < 0
            · rw [decide_eq_true w, decide_eq_true (lt.mp w)]
            · rw [decide_eq_false w, decide_eq_false fun u => w (lt.mpr u)]
          rw [dc, Int.zero_add]
          generalize (G ++ G.take 1).map (ptD D) = GA at *
          generalize G.map (ptD D) = GD at *
          generalize ptD D a = A at *
          generalize ptD D b = B at *
          generalize ptD D p = P at *
          by_cases w : s < 0 <;> simp [lcTurn, j1, j2, q, w, wipeE])
      rw [← rngD_map] at cm
      have r3 := rngO_n (i := 0) (j := (G.length : Int)) (n := G.length) (by omega) (by omega) (by omega) (by omega) (by omega)
      refine ⟨(((List.range G.length).filter fun i => decide (cross (G.getD i (0, 0)) (G.getD ((i + 1) % G.length) (0, 0)) p < 0)).map fun i : Nat => PyData.int (0 + (i : Int))).isEmpty, ?_, ?_⟩
      · have fz : (((List.range G.length).filter fun i => decide (cross (G.getD i (0, 0)) (G.getD ((i + 1) % G.length) (0, 0)) p < 0)).map fun i : Nat => PyData.int (0 + (i : Int))).length ≤ sizeLine := by
          rw [List.length_map, line_is]
          have := List.length_filter_le (fun i => decide (cross (G.getD i (0, 0)) (G.getD ((i + 1) % G.length) (0, 0)) p < 0)) (List.range G.length)
          rw [List.length_range] at this
          omega
        generalize (((List.range G.length).filter fun i => decide (cross (G.getD i (0, 0)) (G.getD ((i + 1) % G.length) (0, 0)) p < 0)).map fun i : Nat => PyData.int (0 + (i : Int))) = F at *
        have ee := eq_le F
        rw [← ap] at cm
        generalize (G.take 1).map (ptD D) = G1 at *
        generalize G.map (ptD D) = GD at *
        generalize (G.length : Int) = L at *
        generalize ptD D p = P at *
        simp [qd40, qb40, startE_eq, List.replicate_succ, ln, g2, g3, cu, zz, runE_lc, noOwn, wipeE, backE, cm, r3, fz, ee]
      · rw [List.isEmpty_iff, List.map_eq_nil_iff, List.filter_eq_nil_iff]
        unfold liesP
        constructor
        · intro h
          refine .inr (.inr ⟨by omega, fun e he => ?_⟩)
          rw [edg_map] at he
          obtain ⟨k, hk, rfl⟩ := List.mem_map.mp he
          have := h k hk
          simp only [decide_eq_true_iff] at this
          simp only
          omega
        · rintro (h | ⟨a, b, e, _⟩ | h) k hk
          · omega
          · rw [e] at h3
            exact absurd rfl h3
          · have := h.2 _ (edg_k (List.mem_range.mp hk)).2.1
            simp only at this
            simp only [decide_eq_true_iff]
            omega
end

--part
theorem ord_ends (D : Int) (ps : List Int) (h : ps ≠ []) : ∃ r : Int × Int, IsR ps (some r) ∧ ixD (.tuple (qs D (ordI ps))) (.int 0) = some (frD (qF D r.1)) ∧ ixD (.tuple (qs D (ordI ps))) (.int (-1)) = some (frD (qF D r.2)) := by
  obtain ⟨m, l, p, _⟩ := ordI_all ps
  have ne : ordI ps ≠ [] := fun z => by
    rw [z] at l
    exact h (List.length_eq_zero_iff.mp l.symm)
  generalize ordI ps = L at *
  obtain ⟨lo, t, e1⟩ : ∃ lo t, L = lo :: t := List.exists_cons_of_ne_nil ne
  obtain ⟨A, hi, e2⟩ : ∃ A hi, L = A ++ [hi] := ⟨L.dropLast, L.getLast ne, (List.dropLast_concat_getLast ne).symm⟩
  refine ⟨(lo, hi), ⟨(m lo).mp (by rw [e1]; simp), (m hi).mp (by rw [e2]; simp), fun y hy => ?_⟩, ?_, ?_⟩
  · have y1 := (m y).mpr hy
    have y2 := y1
    have p2 := p
    constructor
    · rw [e1] at y1 p
      rcases List.mem_cons.mp y1 with rfl | z
      · exact Int.le_refl _
      · exact (List.pairwise_cons.mp p).1 y z
    · rw [e2] at y2 p2
      rcases List.mem_append.mp y2 with z | z
      · exact (List.pairwise_append.mp p2).2.2 y z hi (by simp)
      · rw [List.mem_singleton.mp z]
        exact Int.le_refl _
  · rw [e1]
    exact at_i0 _ _
  · rw [e2]
    have : qs D (A ++ [hi]) = qs D A ++ [frD (qF D hi)] := by simp [qs]
    rw [this]
    exact atm1 _ _
theorem sOf_len (X : Int) (e : Pt × Pt) : (sOf X e).length ≤ 1 := by
  unfold sOf
  split
  · simp
  · split <;> simp
theorem sL_len (X : Int) : ∀ es : List (Pt × Pt), (sL es X).length ≤ es.length
  | [] => by simp [sL]
  | e :: r => by
    have a := sOf_len X e
    have b := sL_len X r
    have c : sL (e :: r) X = sOf X e ++ sL r X := rfl
    rw [c, List.length_append, List.length_cons]
    omega
section
variable {D : Int} (h0 : 0 < D) (hD : Bd 60 D)
include h0 hD
theorem llong_turn (n : Nat) {a b : Pt} {X : Int} (ha : OkP a) (hb : OkP b) (hX : Bd 60 X) (ev : (a.1 - X) * (b.1 - X) < 0 → cross a b (X, yOn a b X) = 0) (F : List Int) (hF : F.length ≤ 100) (P : List PyData) (i : Nat) (i1 : atI P (i : Int) = some (ptD D a)) (i2 : atI P ((i : Int) + 1) = some (ptD D b)) :
    ((En.put [none, some (.v (frD (qF D X))), some (.o (qs D F)), some (.v (.tuple P)), none, none, none, none, none, none, none, none, none] 4 (.v (.int (0 + (i : Int))))).bind fun en1 => (runB (runP cons FU defs (n + 2)) cons FU qb41_0 en1).bind fun f => some (wipF [0, 4, 5, 6, 7, 8, 9, 10, 11, 12] f)) = some (.nx [none, some (.v (frD (qF D X))), some (.o (qs D (F ++ sOf X (a, b)))), some (.v (.tuple P)), none, none, none, none, none, none, none, none, none]) := by
  have s1 := sign_at (n + 1) (qfr h0 hD ha.1).b (qfr h0 hD hX).b (by decide)
  have s2 := sign_at (n + 1) (qfr h0 hD hb.1).b (qfr h0 hD hX).b (by decide)
  have l1 := qF_lt h0 a.1 X
  have l2 := qF_lt h0 b.1 X
  have e1 := qF_le h0 a.1 X
  have e2 := qF_le h0 b.1 X
  have d1 := ldif_at h0 hD n hX ha.1
  have d2 := ldif_at h0 hD n hb.1 ha.1
  have d3 := ldif_at h0 hD n hb.2 ha.2
  have f1 := dfr h0 hD hX ha.1
  have f2 := dfr h0 hD hb.1 ha.1
  have f3 := dfr h0 hD hb.2 ha.2
  have m1 := mulK f1.b.a f2.b.b (by decide)
  have m2 := mulK f1.b.b f2.b.a (by decide)
  have j1 : ixD (.tuple P) (.int (i : Int)) = some (ptD D a) := i1
  have j2 : ixD (.tuple P) (.int ((i : Int) + 1)) = some (ptD D b) := i2
  have a0 := pt_0 D a
  have a1 := pt_1 D a
  have b0 := pt_0 D b
  have b1 := pt_1 D b
  have z : (qs D F).length < sizeLine := by rw [qs_len, line_is]; omega
  rw [Int.zero_add]
  by_cases c1 : a.1 = X
  · have so : sOf X (a, b) = [a.2] := if_pos c1
    have u0 : (qF D a.1).1 * (qF D X).2 - (qF D X).1 * (qF D a.1).2 = 0 := by omega
    have qe : qs D (F ++ [a.2]) = qs D F ++ [frD (qF D a.2)] := by simp [qs]
    rw [so, qe]
    rw [u0] at s1
    generalize (qF D b.1).1 * (qF D X).2 - (qF D X).1 * (qF D b.1).2 = v at *
    generalize qs D F = FL at *
    generalize ptD D a = A at *
    generalize ptD D b = B at *
    generalize frD (qF D X) = XX at *
    generalize frD (qF D a.1) = A0 at *
    generalize frD (qF D a.2) = A1 at *
    generalize frD (qF D b.1) = B0 at *
    generalize frD (qF D b.2) = B1 at *
    simp [qb41_0, j1, j2, a0, a1, b0, b1, s1, s2, runE_mt, mtD, z]
  · by_cases c2 : (a.1 - X) * (b.1 - X) < 0
    · have so : sOf X (a, b) = [yOn a b X] := by
        unfold sOf
        rw [if_neg c1, if_pos c2]
      have np := neg_prod c2
      have hΔ : b.1 - a.1 ≠ 0 := by omega
      have ev := ev c2
      have ey : (yOn a b X - a.2) * (b.1 - a.1) = (X - a.1) * (b.2 - a.2) := by
        unfold cross at ev
        simp only at ev
        grind
      have n2 : (qF D (b.1 - a.1)).1 ≠ 0 := fun z => by
        have qc := qF_cross h0 (b.1 - a.1)
        rw [z, Int.zero_mul] at qc
        rcases Int.mul_eq_zero.mp qc.symm with y | y
        · exact hΔ y
        · have := qF_pos h0 (b.1 - a.1)
          omega
      have den : (qF D (X - a.1)).2 * (qF D (b.1 - a.1)).1 ≠ 0 := Int.mul_ne_zero (by have := f1.pos; omega) n2
      have r := ratio_at (n + 1) ((qF D (X - a.1)).1 * (qF D (b.1 - a.1)).2) ((qF D (X - a.1)).2 * (qF D (b.1 - a.1)).1) (f1.b.b.mul f2.b.a) (by decide) den
      have rd : redI ((qF D (X - a.1)).1 * (qF D (b.1 - a.1)).2) ((qF D (X - a.1)).2 * (qF D (b.1 - a.1)).1) = divF (qF D (X - a.1)) (qF D (b.1 - a.1)) := rfl
      rw [rd] at r
      have fR : Fr 122 (divF (qF D (X - a.1)) (qF D (b.1 - a.1))) := Fr.red den (f1.b.a.mul f2.b.b) (f1.b.b.mul f2.b.a)
      have m0 := frac_part h0 hΔ ey
      have t1 := by_at n (k := 122) fR.b (f3.b.mono (by decide)) (by decide) fR.pos f3.pos
      have g1 := fR.mul f3
      have p1 := plus_at n (k := 183) ((qfr h0 hD ha.2).b.mono (by decide)) g1.b (by decide) (qfr h0 hD ha.2).pos g1.pos
      rw [m0] at t1 p1
      rw [qF_add h0, show a.2 + (yOn a b X - a.2) = yOn a b X by omega] at p1
      have qe : qs D (F ++ [yOn a b X]) = qs D F ++ [frD (qF D (yOn a b X))] := by simp [qs]
      rw [so, qe]
      have key : ((qF D a.1).1 * (qF D X).2 - (qF D X).1 * (qF D a.1).2 < 0 ∧ 0 < (qF D b.1).1 * (qF D X).2 - (qF D X).1 * (qF D b.1).2) ∨ (0 < (qF D a.1).1 * (qF D X).2 - (qF D X).1 * (qF D a.1).2 ∧ (qF D b.1).1 * (qF D X).2 - (qF D X).1 * (qF D b.1).2 < 0) := by omega
      have w1 := fr_i0 (qF D (X - a.1))
      have w2 := fr_i1 (qF D (X - a.1))
      have w3 := fr_i0 (qF D (b.1 - a.1))
      have w4 := fr_i1 (qF D (b.1 - a.1))
      generalize (qF D a.1).1 * (qF D X).2 - (qF D X).1 * (qF D a.1).2 = u at *
      generalize (qF D b.1).1 * (qF D X).2 - (qF D X).1 * (qF D b.1).2 = v at *
      generalize qs D F = FL at *
      generalize ptD D a = A at *
      generalize ptD D b = B at *
      generalize frD (divF (qF D (X - a.1)) (qF D (b.1 - a.1))) = R at *
      generalize frD (qF D (X - a.1)) = W1 at *
      generalize frD (qF D (b.1 - a.1)) = W2 at *
      generalize frD (qF D (b.2 - a.2)) = W3 at *
      generalize frD (qF D (yOn a b X)) = YY at *
      generalize frD (qF D X) = XX at *
      generalize frD (qF D a.1) = A0 at *
      generalize frD (qF D a.2) = A1 at *
      generalize frD (qF D b.1) = B0 at *
      generalize frD (qF D b.2) = B1 at *
      rcases key with ⟨k1, k2⟩ | ⟨k1, k2⟩
      · have k3 : ¬ u = 0 := by omega
        have k4 : ¬ 0 < u := by omega
        simp [qb41_0, j1, j2, a0, a1, b0, b1, s1, s2, k1, k2, k3, k4, d1, d2, w1, w2, w3, w4, m1, m2, r, d3, t1, p1, runE_mt, mtD, z]
      · have k3 : ¬ u = 0 := by omega
        simp [qb41_0, j1, j2, a0, a1, b0, b1, s1, s2, k1, k2, k3, d1, d2, w1, w2, w3, w4, m1, m2, r, d3, t1, p1, runE_mt, mtD, z]
    · have so : sOf X (a, b) = [] := by
        unfold sOf
        rw [if_neg c1, if_neg c2]
      have pn : ¬ (a.1 - X < 0 ∧ 0 < b.1 - X ∨ 0 < a.1 - X ∧ b.1 - X < 0) := fun h => c2 (prod_neg h)
      have k0 : ¬ (qF D a.1).1 * (qF D X).2 - (qF D X).1 * (qF D a.1).2 = 0 := by omega
      have k1 : ¬ (0 < (qF D a.1).1 * (qF D X).2 - (qF D X).1 * (qF D a.1).2 ∧ (qF D b.1).1 * (qF D X).2 - (qF D X).1 * (qF D b.1).2 < 0) := by omega
      have k2 : ¬ ((qF D a.1).1 * (qF D X).2 - (qF D X).1 * (qF D a.1).2 < 0 ∧ 0 < (qF D b.1).1 * (qF D X).2 - (qF D X).1 * (qF D b.1).2) := by omega
      rw [so, List.append_nil]
      generalize (qF D a.1).1 * (qF D X).2 - (qF D X).1 * (qF D a.1).2 = u at *
      generalize (qF D b.1).1 * (qF D X).2 - (qF D X).1 * (qF D b.1).2 = v at *
      generalize qs D F = FL at *
      generalize ptD D a = A at *
      generalize ptD D b = B at *
      generalize frD (qF D X) = XX at *
      generalize frD (qF D a.1) = A0 at *
      generalize frD (qF D a.2) = A1 at *
      generalize frD (qF D b.1) = B0 at *
      generalize frD (qF D b.2) = B1 at *
      by_cases x1 : 0 < u
      · have x2 : ¬ v < 0 := fun h => k1 ⟨x1, h⟩
        have x3 : ¬ u < 0 := by omega
        simp [qb41_0, j1, j2, a0, a1, b0, b1, s1, s2, k0, x1, x2, x3]
      · have x3 : u < 0 := by omega
        have x2 : ¬ 0 < v := fun h => k2 ⟨x3, h⟩
        simp [qb41_0, j1, j2, a0, a1, b0, b1, s1, s2, k0, x1, x2, x3]
theorem llongs_at (n : Nat) {G : List Pt} {X : Int} (ho : ∀ p ∈ G, OkP p) (hl : G.length ≤ 100) (hX : Bd 60 X) (ev : Even (edg G) X) : ∃ r, runP cons FU defs (n + 3) 41 [.v (.tuple (G.map (ptD D))), .v (frD (qF D X))] = some (.v (loD D r), []) ∧ IsR (sL (edg G) X) r := by
  have em := edg_map G
  obtain ⟨E, hE⟩ : ∃ E : Nat → Pt × Pt, E = fun k => (G.getD k (0, 0), G.getD ((k + 1) % G.length) (0, 0)) := ⟨_, rfl⟩
  rw [← hE] at em
  have lnG : (G.map (ptD D)).length = G.length := List.length_map _
  have ln : fnD .len [.tuple (G.map (ptD D))] = some (.v (.int (G.length : Int))) := by
    show some (Sl.v (.int ((G.map (ptD D)).length : Int))) = _
    rw [lnG]
  have len (i : Nat) : (sL ((List.range i).map E) X).length ≤ i := by
    have := sL_len X ((List.range i).map E)
    rwa [List.length_map, List.length_range] at this
  obtain ⟨e, f, rfl⟩ := forD_rng (body := fun d en => (En.put en 4 (.v d)).bind fun en1 => (runB (runP cons FU defs (n + 2)) cons FU qb41_0 en1).bind fun f => some (wipF [0, 4, 5, 6, 7, 8, 9, 10, 11, 12] f))
    (fun i e => e = [none, some (.v (frD (qF D X))), some (.o (qs D (sL ((List.range i).map E) X))), some (.v (.tuple ((G ++ G.take 1).map (ptD D)))), none, none, none, none, none, none, none, none, none]) 0 G.length _ rfl (by
      rintro i hi e rfl
      refine ⟨_, ?_, rfl⟩
      obtain ⟨k1, k2, k3, k4⟩ := edg_k hi
      have i1 := at_G (D := D) G (G.take 1) hi
      have i2 := at_G1 (D := D) G (G.take 1) (fun m t e => by rw [e]; rfl) hi
      have t := llong_turn h0 hD n (ho _ k3) (ho _ k4) hX (ev _ k2) (sL ((List.range i).map E) X) (by have := len i; omega) _ i i1 i2
      have e1 : sL ((List.range (i + 1)).map E) X = sL ((List.range i).map E) X ++ sOf X (G.getD i (0, 0), G.getD ((i + 1) % G.length) (0, 0)) := by
        unfold sL
        rw [List.range_succ, List.map_append, List.flatMap_append]
        simp [hE]
      rw [e1]
      exact t)
  rw [← em] at f
  have rg := rngO_n (i := 0) (j := (G.length : Int)) (n := G.length) (by omega) (by omega) (by omega) (by omega) (by omega)
  have cu : cutL (G.map (ptD D)) none (some ((1 : Nat) : Int)) = (G.take 1).map (ptD D) := by rw [cut_hi, List.map_take]
  have cu : cutL (G.map (ptD D)) none (some 1) = (G.take 1).map (ptD D) := cu
  have zz : (G.map (ptD D)).length + ((G.take 1).map (ptD D)).length ≤ sizeLine := by
    rw [lnG, List.length_map, List.length_take, line_is]
    omega
  have ap : G.map (ptD D) ++ (G.take 1).map (ptD D) = (G ++ G.take 1).map (ptD D) := List.map_append.symm
  have sl : (sL (edg G) X).length ≤ 100 := by
    have := len G.length
    rw [← em] at this
    omega
  have bd := sL_bd ho ev
  have f : forD _ (rngD 0 G.length) [none, some (.v (frD (qF D X))), some (.o []), some (.v (.tuple ((G ++ G.take 1).map (ptD D)))), none, none, none, none, none, none, none, none, none] = some (.nx _) := f
  rw [← ap] at f
  generalize sL (edg G) X = S at *
  have q := lawinord_at n h0 hD (.list (qs D S)) S (.inl rfl) bd (by omega)
  have ne := ne_le (qs D S)
  by_cases hS : S = []
  · subst hS
    refine ⟨none, ?_, rfl⟩
    have q0 : qs D [] = [] := rfl
    rw [q0] at f q ne
    have ne : cmpD .NotEq (.list []) (.list []) = some false := ne
    unfold loD
    simp only
    rw [at_def qd41 rfl rfl]
    generalize qs D (ordI []) = O at *
    generalize G.map (ptD D) = GD at *
    generalize (G.take 1).map (ptD D) = G1 at *
    generalize (G.length : Int) = L at *
    generalize frD (qF D X) = XX at *
    simp [qd41, qb41, startE_eq, List.replicate_succ, cu, zz, ln, rg, runS_for, f, q, ne]
  · obtain ⟨r, hr, x0, x1⟩ := ord_ends D S hS
    refine ⟨some r, ?_, hr⟩
    have nb : (qs D S).isEmpty = false := by
      cases S with
      | nil => exact absurd rfl hS
      | cons _ _ => rfl
    rw [nb] at ne
    unfold loD
    simp only
    rw [at_def qd41 rfl rfl]
    generalize qs D (ordI S) = O at *
    generalize qs D S = SL at *
    generalize G.map (ptD D) = GD at *
    generalize (G.take 1).map (ptD D) = G1 at *
    generalize (G.length : Int) = L at *
    generalize frD (qF D X) = XX at *
    generalize frD (qF D r.1) = R1 at *
    generalize frD (qF D r.2) = R2 at *
    simp [qd41, qb41, startE_eq, List.replicate_succ, cu, zz, ln, rg, runS_for, f, q, ne, x0, x1]
end

--part
/-! drawn bounds -/
structure B5 where
  c : Int
  e : Int
  a : Int
  e2 : Int
  a2 : Int
  lo : Nat
  most : Nat
  lead : Nat
def B5.d (b : B5) : PyData := .tuple [.int b.c, frD (qF b.e b.a), frD (qF b.e2 b.a2), .int b.lo, .int b.most, .int b.lead]
@[simp] theorem B5.i0 (b : B5) : ixD b.d (.int 0) = some (.int b.c) := rfl
@[simp] theorem B5.i1 (b : B5) : ixD b.d (.int 1) = some (frD (qF b.e b.a)) := rfl
@[simp] theorem B5.i2 (b : B5) : ixD b.d (.int 2) = some (frD (qF b.e2 b.a2)) := rfl
@[simp] theorem B5.i3 (b : B5) : ixD b.d (.int 3) = some (.int b.lo) := rfl
@[simp] theorem B5.i4 (b : B5) : ixD b.d (.int 4) = some (.int b.most) := rfl
@[simp] theorem B5.i5 (b : B5) : ixD b.d (.int 5) = some (.int b.lead) := rfl
structure B5.Ok (b : B5) : Prop where
  c0 : 1 ≤ b.c
  c1 : b.c ≤ 1000
  e0 : 1 ≤ b.e
  e1 : b.e ≤ 12
  a0 : 0 ≤ b.a
  a1 : b.a ≤ 40
  f0 : 1 ≤ b.e2
  f1 : b.e2 ≤ 12
  g0 : 0 ≤ b.a2
  g1 : b.a2 ≤ 40
  l0 : 1 ≤ b.lo
  l1 : b.lo ≤ b.most
  l2 : b.most ≤ 5
  l3 : 1 ≤ b.lead
  l4 : b.lead ≤ 3
/-- the one denominator of all that is drawn under these bounds -/
def B5.D (b : B5) : Int := b.e * 24
theorem B5.Ok.D0 {b : B5} (h : b.Ok) : 0 < b.D := by
  have := h.e0
  unfold B5.D
  omega
theorem B5.Ok.D1 {b : B5} (h : b.Ok) : b.D ≤ 288 := by
  have := h.e1
  unfold B5.D
  omega
theorem frD_q {x y : Int} {p : Int × Int} (h : redI x y = p) : frD p = frD (qF y x) := by rw [← h]; rfl
theorem amount_at (n : Nat) (b : Bag) (k : Nat) (hb : b.Ok k) (hk : k ≤ 10 ^ 8) : ∃ (e a : Int) (b' : Bag), runP cons FU defs (n + 3) 30 [.b b.d] = some (.v (frD (qF e a)), b'.d) ∧ 1 ≤ e ∧ e ≤ 12 ∧ 0 ≤ a ∧ a ≤ 40 ∧ b'.Ok (k + 3) := by
  obtain ⟨r1, b1, q1, g1, h1, k1⟩ := take_at (n + 1) b 40 k hb (by omega) (by decide) (by decide)
  obtain ⟨r2, b2, q2, g2, h2, k2⟩ := take_at (n + 1) b1 12 _ k1 (by omega) (by decide) (by decide)
  have rt := ratio_at (n + 1) r1 (1 + r2) (k := 2) (by unfold Bd; omega) (by decide) (by omega)
  obtain ⟨v, b3, q3, m3, k3⟩ := some_at n b2 [.tuple [.int 0, .int 1], .tuple [.int 1, .int 2], .tuple [.int 1, .int 1], .tuple [.int 3, .int 2], .tuple [.int 1, .int 3], .tuple [.int 2, .int 1], .tuple [.int 1, .int 4], .tuple [.int 5, .int 3], .tuple [.int 0, .int 1], frD (redI r1 (1 + r2))] _ k2 (by omega) (by simp) (by simp)
  obtain ⟨e, a, rfl, h⟩ : ∃ e a : Int, v = frD (qF e a) ∧ 1 ≤ e ∧ e ≤ 12 ∧ 0 ≤ a ∧ a ≤ 40 := by
    simp only [List.mem_cons, List.not_mem_nil, or_false] at m3
    rcases m3 with rfl | rfl | rfl | rfl | rfl | rfl | rfl | rfl | rfl | rfl
    · exact ⟨1, 0, frD_q (p := (0, 1)) (by decide +kernel), by omega⟩
    · exact ⟨2, 1, frD_q (p := (1, 2)) (by decide +kernel), by omega⟩
    · exact ⟨1, 1, frD_q (p := (1, 1)) (by decide +kernel), by omega⟩
    · exact ⟨2, 3, frD_q (p := (3, 2)) (by decide +kernel), by omega⟩
    · exact ⟨3, 1, frD_q (p := (1, 3)) (by decide +kernel), by omega⟩
    · exact ⟨1, 2, frD_q (p := (2, 1)) (by decide +kernel), by omega⟩
    · exact ⟨4, 1, frD_q (p := (1, 4)) (by decide +kernel), by omega⟩
    · exact ⟨3, 5, frD_q (p := (5, 3)) (by decide +kernel), by omega⟩
    · exact ⟨1, 0, frD_q (p := (0, 1)) (by decide +kernel), by omega⟩
    · exact ⟨1 + r2, r1, rfl, by omega⟩
  refine ⟨e, a, b3, ?_, h.1, h.2.1, h.2.2.1, h.2.2.2, k3⟩
  rw [at_def qd30 rfl rfl]
  simp [qd30, qb30, startE_eq, List.replicate_succ, q1, q2, rt, q3]
theorem bounds_at (n : Nat) (b : Bag) (k : Nat) (hb : b.Ok k) (hk : k ≤ 10 ^ 7) : ∃ (B : B5) (b' : Bag), runP cons FU defs (n + 4) 31 [.b b.d] = some (.v B.d, b'.d) ∧ B.Ok ∧ b'.Ok (k + 10) := by
  obtain ⟨v, b1, q1, m1, k1⟩ := some_at (n + 1) b [.tuple [.int 2, .int 3], .tuple [.int 1, .int 2], .tuple [.int 1, .int 3], .tuple [.int 2, .int 2], .tuple [.int 3, .int 5], .tuple [.int 1, .int 1], .tuple [.int 2, .int 4], .tuple [.int 3, .int 4], .tuple [.int 1, .int 5]] _ hb (by omega) (by simp) (by simp)
  obtain ⟨lo, most, rfl, h⟩ : ∃ lo most : Nat, v = .tuple [.int lo, .int most] ∧ 1 ≤ lo ∧ lo ≤ most ∧ most ≤ 5 := by
    simp only [List.mem_cons, List.not_mem_nil, or_false] at m1
    rcases m1 with rfl | rfl | rfl | rfl | rfl | rfl | rfl | rfl | rfl
    · exact ⟨2, 3, rfl, by omega⟩
    · exact ⟨1, 2, rfl, by omega⟩
    · exact ⟨1, 3, rfl, by omega⟩
    · exact ⟨2, 2, rfl, by omega⟩
    · exact ⟨3, 5, rfl, by omega⟩
    · exact ⟨1, 1, rfl, by omega⟩
    · exact ⟨2, 4, rfl, by omega⟩
    · exact ⟨3, 4, rfl, by omega⟩
    · exact ⟨1, 5, rfl, by omega⟩
  obtain ⟨e, a, b2, q2, h2, h3, h4, h5, k2⟩ := amount_at n b1 _ k1 (by omega)
  obtain ⟨e2, a2, b3, q3, g2, g3, g4, g5, k3⟩ := amount_at n b2 _ k2 (by omega)
  obtain ⟨ld, b4, q4, m4, k4⟩ := some_int (n + 1) b3 [1, 2, 1, 3] _ k3 (by omega) (by simp) (by simp)
  have hld := (by decide : ∀ j ∈ [(1 : Int), 2, 1, 3], 1 ≤ j ∧ j ≤ 3) ld m4
  obtain ⟨r5, b5, q5, g6, h6, k5⟩ := take_at (n + 2) b4 30 _ k4 (by omega) (by decide) (by decide)
  obtain ⟨c, b6, q6, m6, k6⟩ := some_int (n + 1) b5 [4, 1, 2, 9, 16, 22, 40, 1 + r5, 1000] _ k5 (by omega) (by simp) (by simp)
  have hc : 1 ≤ c ∧ c ≤ 1000 := by
    simp only [List.mem_cons, List.not_mem_nil, or_false] at m6
    omega
  simp only [List.map_cons, List.map_nil] at q4 q6
  obtain ⟨ld, rfl⟩ := Int.eq_ofNat_of_zero_le (show 0 ≤ ld by omega)
  refine ⟨⟨c, e, a, e2, a2, lo, most, ld⟩, b6, ?_, ⟨hc.1, hc.2, h2, h3, h4, h5, g2, g3, g4, g5, h.1, h.2.1, h.2.2, by show 1 ≤ ld; omega, by show ld ≤ 3; omega⟩, k6⟩
  rw [at_def qd31 rfl rfl]
  simp [qd31, qb31, startE_eq, List.replicate_succ, q1, q2, q3, q4, q5, q6, B5.d]
theorem mixed_loop {α : Type} (n : Nat) (f : α → PyData) : ∀ (xs l : List α) (b : Bag) (k : Nat), b.Ok k → k + xs.length ≤ 10 ^ 8 → l.length + xs.length ≤ 10 ^ 6 →
    ∃ (l' : List α) (b' : Bag), forD (fun d en => (en.put 3 (.v d)).bind fun en1 => (runB (runP cons FU defs (n + 1)) cons FU qb23_0 en1).bind fun f => some (wipF [1, 3] f)) (xs.map f) [some (.b b.d), none, some (.o (l.map f)), none] = some (.nx [some (.b b'.d), none, some (.o (l'.map f)), none]) ∧ l'.Perm (l ++ xs) ∧ b'.Ok (k + xs.length)
  | [], l, b, k, hb, _, _ => ⟨l, b, rfl, by simp, hb⟩
  | x :: r, l, b, k, hb, h1, h2 => by
    simp only [List.length_cons] at h1 h2
    obtain ⟨v, b1, q, v0, v1, hb1⟩ := take_at n b ((l.length : Int) + 1) k hb (by omega) (by omega) (by omega)
    obtain ⟨v, rfl⟩ := Int.eq_ofNat_of_zero_le v0
    obtain ⟨l', b', h, hp, hb'⟩ := mixed_loop n f r (l.take v ++ x :: l.drop v) b1 (k + 1) hb1 (by omega) (by simp only [List.length_append, List.length_take, List.length_cons, List.length_drop]; omega)
    refine ⟨l', b', ?_, ?_, by rw [List.length_cons, ← Nat.add_assoc, Nat.add_right_comm]; exact hb'⟩
    · have t : (fun d en => (En.put en 3 (.v d)).bind fun en1 => (runB (runP cons FU defs (n + 1)) cons FU qb23_0 en1).bind fun f => some (wipF [1, 3] f)) (f x) [some (.b b.d), none, some (.o (l.map f)), none] = some (.nx [some (.b b1.d), none, some (.o ((l.take v ++ x :: l.drop v).map f)), none]) := by
        have zl : l.length < sizeLine := by rw [line_is]; omega
        have zv : ((v : Nat) : Int) ≤ (l.length : Int) := by omega
        have zv2 : v ≤ l.length := by omega
        have eq : (l.map f).take v ++ f x :: (l.map f).drop v = (l.take v ++ x :: l.drop v).map f := by simp
        simp [-List.map_take, -List.map_drop, -List.map_append, qb23_0, runE_mt, mtD, q, zl, zv, zv2, eq]
      show Option.bind _ _ = _
      rw [t]
      exact h
    · refine hp.trans ?_
      have e : (l.take v ++ x :: l.drop v).Perm (x :: l) := by
        refine List.perm_middle.trans ?_
        rw [List.take_append_drop]
      refine (e.append_right r).trans ?_
      exact List.perm_middle.symm
theorem mixed_at {α : Type} (n : Nat) (f : α → PyData) (xs : List α) (b : Bag) (k : Nat) (hb : b.Ok k) (h1 : k + xs.length ≤ 10 ^ 8) (h2 : xs.length ≤ 10 ^ 6) :
    ∃ (l : List α) (b' : Bag), runP cons FU defs (n + 2) 23 [.b b.d, .v (.list (xs.map f))] = some (.o (l.map f), b'.d) ∧ l.Perm xs ∧ b'.Ok (k + xs.length) := by
  obtain ⟨l, b', h, hp, hb'⟩ := mixed_loop n f xs [] b k hb h1 (by simpa using h2)
  refine ⟨l, b', ?_, hp, hb'⟩
  rw [at_def qd23 rfl rfl]
  rw [List.map_nil] at h
  simp [qd23, qb23, startE_eq, List.replicate_succ, runS_for, h]
theorem ex_map {α β : Type} (f : α → β) : ∀ ys : List β, (∀ y ∈ ys, ∃ a, y = f a) → ∃ l : List α, ys = l.map f
  | [], _ => ⟨[], rfl⟩
  | y :: r, h => by
    obtain ⟨a, rfl⟩ := h y (by simp)
    obtain ⟨l, rfl⟩ := ex_map f r fun z hz => h z (List.mem_cons_of_mem _ hz)
    exact ⟨a :: l, rfl⟩

/-! the law's draws: a grid over one denominator -/
def LK : Int := 718766754945489455304472257065075294400
def KK : Int := 3 * LK
def DK : Int := 6 * KK
def CK : Int := DK / 4
theorem DK0 : 0 < DK := by decide +kernel
theorem KK0 : 0 < KK := by decide +kernel
theorem CK0 : 0 < CK ∧ DK = 4 * CK := by decide +kernel
theorem DKb : Bd 60 DK := by
  have : DK.natAbs < 10 ^ 60 := by decide +kernel
  exact this
theorem KKb : Bd 45 KK ∧ Bd 45 (3 * KK) ∧ Bd 45 DK ∧ Bd 45 CK := by
  have : KK.natAbs < 10 ^ 45 ∧ (3 * KK).natAbs < 10 ^ 45 ∧ DK.natAbs < 10 ^ 45 ∧ CK.natAbs < 10 ^ 45 := by decide +kernel
  exact this
theorem LK_dvd : ∀ d : Fin 90, LK % ((d.val : Int) + 1) = 0 := by decide +kernel
theorem LK_d {x : Int} (h0 : x ≠ 0) (h : x.natAbs ≤ 90) : x ∣ LK := by
  have := Int.dvd_of_emod_eq_zero (LK_dvd ⟨x.natAbs - 1, by omega⟩)
  simp only at this
  have e : (((x.natAbs - 1 : Nat) : Int) + 1) = (x.natAbs : Int) := by omega
  rw [e] at this
  exact Int.natAbs_dvd.mp this
theorem gq {x y c : Int} (hy : 0 < y) (hc : 0 < c) (h : DK = y * c) : redI x y = qF DK (x * c) := by
  rw [h, qF_scale hy hc]
  rfl
def GP (m : Int) (p : Pt) : Prop := ∃ u v : Int, p = (3 * KK * u, KK * v) ∧ 0 ≤ u ∧ u ≤ m ∧ 0 ≤ v ∧ v ≤ 10 ^ 4 + m
theorem GP.ok {m : Int} {p : Pt} (h : GP m p) (hm : m ≤ 90) : OkP p := by
  obtain ⟨u, v, rfl, h1, h2, h3, h4⟩ := h
  exact ⟨(KKb.2.1.mul (show Bd 2 u by unfold Bd; omega)).mono (by decide), (KKb.1.mul (show Bd 5 v by unfold Bd; omega)).mono (by decide)⟩
theorem GP.mono {m m' : Int} {p : Pt} (h : GP m p) (hm : m ≤ m') : GP m' p := by
  obtain ⟨u, v, e, h1, h2, h3, h4⟩ := h
  exact ⟨u, v, e, h1, by omega, h3, by omega⟩
theorem GP.even {G : List Pt} (h : ∀ p ∈ G, GP 90 p) (w : Int) : Even (edg G) (KK * w) := fun e he hn => by
  obtain ⟨i1, i2⟩ := edg_in G e he
  obtain ⟨u, v, e1, u0, u1, _, _⟩ := h _ i1
  obtain ⟨u', v', e2, u0', u1', _, _⟩ := h _ i2
  have np := neg_prod hn
  have K0 := KK0
  rw [e1, e2] at np ⊢
  simp only at np
  have ne : u' - u ≠ 0 := fun z => by
    have : u' = u := by omega
    subst this
    omega
  obtain ⟨q, hq⟩ := LK_d ne (by omega)
  have kq : KK = 3 * ((u' - u) * q) := by rw [← hq]; rfl
  have den : 3 * KK * u' - 3 * KK * u ≠ 0 := by omega
  have num : (KK * v' - KK * v) * (KK * w - 3 * KK * u) = (3 * KK * u' - 3 * KK * u) * (q * (v' - v) * (w - 3 * u)) := by
    calc (KK * v' - KK * v) * (KK * w - 3 * KK * u) = KK * (KK * ((v' - v) * (w - 3 * u))) := by grind
      _ = KK * (3 * ((u' - u) * q) * ((v' - v) * (w - 3 * u))) := by rw [← kq]
      _ = _ := by grind
  unfold yOn cross
  simp only
  rw [num, Int.mul_ediv_cancel_left _ den]
  grind
theorem ex_mapP {α β : Type} (f : α → β) (P : α → Prop) : ∀ ys : List β, (∀ y ∈ ys, ∃ a, y = f a ∧ P a) → ∃ l : List α, ys = l.map f ∧ ∀ a ∈ l, P a
  | [], _ => ⟨[], rfl, by simp⟩
  | y :: r, h => by
    obtain ⟨a, rfl, ha⟩ := h y (by simp)
    obtain ⟨l, rfl, hl⟩ := ex_mapP f P r fun z hz => h z (List.mem_cons_of_mem _ hz)
    exact ⟨a :: l, rfl, fun b hb => by
      rcases List.mem_cons.mp hb with rfl | hb
      · exact ha
      · exact hl b hb⟩
theorem lplus_q (n : Nat) {x y : Int} (hx : Bd 60 x) (hy : Bd 60 y) : runP cons FU defs (n + 2) 26 [.v (frD (qF DK x)), .v (frD (qF DK y))] = some (.v (frD (qF DK (x + y))), []) := by
  have a := qfr DK0 DKb hx
  have b := qfr DK0 DKb hy
  have q := plus_at n (k := 60) a.b b.b (by decide) a.pos b.pos
  rw [qF_add DK0] at q
  exact q
theorem wh_q (c : Int) : PyData.tuple [.int c, .int 1] = frD (qF DK (c * DK)) := by rw [qF_one DK0]; rfl
theorem lcornerd_at (n : Nat) (b : Bag) (k : Nat) (hb : b.Ok k) (hk : k ≤ 10 ^ 7) (B : B5) (hB : B.Ok) : ∃ (p : Pt) (b' : Bag), runP cons FU defs (n + 3) 42 [.b b.d, .v B.d] = some (.v (ptD DK p), b'.d) ∧ GP 80 p ∧ b'.Ok (k + 4) := by
  obtain ⟨t, b1, q1, t0, t1, k1⟩ := take_at (n + 1) b 40 k hb (by omega) (by decide) (by decide)
  obtain ⟨d, b2, q2, hd, k2⟩ := some_int n b1 [1, 1, 2] _ k1 (by omega) (by simp) (by simp)
  obtain ⟨s, b3, q3, s0, s1, k3⟩ := take_at (n + 1) b2 12 _ k2 (by omega) (by decide) (by decide)
  obtain ⟨f, b4, q4, hf, k4⟩ := some_int n b3 [1, 2, 3] _ k3 (by omega) (by simp) (by simp)
  simp only [List.map_cons, List.map_nil] at q2 q4
  have hd' : 1 ≤ d ∧ d ≤ 2 := by
    simp only [List.mem_cons, List.not_mem_nil, or_false] at hd
    omega
  have hf' : 1 ≤ f ∧ f ≤ 3 := by
    simp only [List.mem_cons, List.not_mem_nil, or_false] at hf
    omega
  have r1 := ratio_at (n + 1) t d (k := 2) (by unfold Bd; omega) (by decide) (by omega)
  have r2 := ratio_at (n + 1) s f (k := 2) (by unfold Bd; omega) (by decide) (by omega)
  have D0 := DK0
  have K0 := KK0
  have dk : DK = 6 * KK := rfl
  obtain ⟨u, e1, u0, u1⟩ : ∃ u, redI t d = qF DK (3 * KK * u) ∧ 0 ≤ u ∧ u ≤ 80 := by
    rcases (show d = 1 ∨ d = 2 by omega) with rfl | rfl
    · refine ⟨t * 2, ?_, by omega, by omega⟩
      rw [gq (by decide) D0 (by omega), dk]
      congr 1
      grind
    · refine ⟨t, ?_, by omega, by omega⟩
      rw [gq (c := 3 * KK) (by decide) (by omega) (by omega)]
      congr 1
      grind
  obtain ⟨v, e2, v0, v1⟩ : ∃ v, redI s f = qF DK (KK * v) ∧ 0 ≤ v ∧ v ≤ 66 := by
    rcases (show f = 1 ∨ f = 2 ∨ f = 3 by omega) with rfl | rfl | rfl
    · refine ⟨s * 6, ?_, by omega, by omega⟩
      rw [gq (by decide) D0 (by omega), dk]
      congr 1
      grind
    · refine ⟨s * 3, ?_, by omega, by omega⟩
      rw [gq (c := 3 * KK) (by decide) (by omega) (by omega)]
      congr 1
      grind
    · refine ⟨s * 2, ?_, by omega, by omega⟩
      rw [gq (c := 2 * KK) (by decide) (by omega) (by omega)]
      congr 1
      grind
  rw [e1] at r1
  rw [e2] at r2
  have c0 := hB.c0
  have c1 := hB.c1
  have pl := lplus_q n (x := B.c * DK) (y := KK * v) (((show Bd 4 B.c by unfold Bd; omega).mul KKb.2.2.1).mono (by decide)) ((KKb.1.mul (show Bd 2 v by unfold Bd; omega)).mono (by decide))
  have ev : B.c * DK + KK * v = KK * (6 * B.c + v) := by rw [dk]; grind
  rw [ev, ← wh_q] at pl
  refine ⟨(3 * KK * u, KK * (6 * B.c + v)), b4, ?_, ⟨u, _, rfl, u0, u1, by omega, by omega⟩, k4.mono (by omega)⟩
  have er : ptD DK (3 * KK * u, KK * (6 * B.c + v)) = .tuple [frD (qF DK (3 * KK * u)), frD (qF DK (KK * (6 * B.c + v)))] := rfl
  rw [er]
  generalize frD (qF DK (3 * KK * u)) = X1 at *
  generalize frD (qF DK (KK * (6 * B.c + v))) = X2 at *
  generalize frD (qF DK (KK * v)) = X3 at *
  rw [at_def qd42 rfl rfl]
  simp [qd42, qb42, startE_eq, List.replicate_succ, q1, q2, r1, q3, q4, r2, pl]

--part
theorem lline_turn (Γ : Tab) (i : Nat) (P Y1 Y2 Y3 Y4 Y5 : PyData) (i0 : ixD P (.int 0) = some Y4) (i1 : ixD P (.int 1) = some Y5)
    (r : Γ 25 [.v (.int (i : Int)), .v (.int 2)] = some (.v Y3, [])) (pl1 : Γ 26 [.v Y4, .v (.tuple [.int i, .int 1])] = some (.v Y1, [])) (pl2 : Γ 26 [.v Y5, .v Y3] = some (.v Y2, [])) (B : List PyData) (BD : PyData) (CL : List PyData) :
    lcTurn Γ cons [("_law_k", 5)] (.n 5) .yes (.tup (.cons (.call 26 (.cons (.ix (.x 3) (.k (.int 0))) (.cons (.tup (.cons (.x 5) (.cons (.k (.int 1)) .nil))) .nil))) (.cons (.call 26 (.cons (.ix (.x 3) (.k (.int 1))) (.cons (.call 25 (.cons (.x 5) (.cons (.k (.int 2)) .nil))) .nil))) .nil))) (.int i) [some (.b B), some (.v BD), some (.o CL), some (.v P), none, none] = some (some (.tuple [Y1, Y2]), [some (.b B), some (.v BD), some (.o CL), some (.v P), none, none]) := by
  simp [lcTurn, wipeE, i0, i1, r, pl1, pl2]
theorem lcorners_at (n : Nat) (b : Bag) (k : Nat) (hb : b.Ok k) (hk : k ≤ 10 ^ 6) (B : B5) (hB : B.Ok) : ∃ (cs : List Pt) (s : Sl) (b' : Bag), runP cons FU defs (n + 4) 43 [.b b.d, .v B.d] = some (s, b'.d) ∧ (s = .o (cs.map (ptD DK)) ∨ s = .v (.list (cs.map (ptD DK)))) ∧ 1 ≤ cs.length ∧ cs.length ≤ 10 ∧ (∀ p ∈ cs, GP 90 p) ∧ b'.Ok (k + 60) := by
  obtain ⟨m, b1, q1, hm, k1⟩ := some_int (n + 1) b [4, 1, 2, 3, 6, 9] _ hb (by omega) (by simp) (by simp)
  simp only [List.map_cons, List.map_nil] at q1
  have hm' : 1 ≤ m ∧ m ≤ 9 := by
    simp only [List.mem_cons, List.not_mem_nil, or_false] at hm
    omega
  obtain ⟨j, rfl⟩ := Int.eq_ofNat_of_zero_le (show 0 ≤ m by omega)
  obtain ⟨ys, e', cm, p1, p2, b2, k2, rfl⟩ := compD_keep (turn := lcTurn (runP cons FU defs (n + 3)) cons [("_law_k", 5)] (.n 5) .yes (.call 42 (.io 0 (.cons (.x 1) .nil)))) (fun i e => ∃ b' : Bag, b'.Ok (k + 1 + 4 * i) ∧ e = [some (.b b'.d), some (.v B.d), none, none, none, none])
    (fun d => ∃ p, d = ptD DK p ∧ GP 80 p) (rngD 0 j) 0 [some (.b b1.d), some (.v B.d), none, none, none, none] ⟨b1, k1, rfl⟩ (by
      rintro i hi e ⟨b2, hb2, rfl⟩
      rw [rngD_len] at hi
      obtain ⟨p, b3, q, g, k3⟩ := lcornerd_at n b2 _ hb2 (by omega) B hB
      refine ⟨ptD DK p, _, ?_, ⟨p, rfl, g⟩, b3, k3.mono (by omega), rfl⟩
      generalize ptD DK p = P at *
      simp [lcTurn, q, wipeE])
  obtain ⟨cs, rfl, hc⟩ := ex_mapP (ptD DK) (GP 80) ys p1
  rw [rngD_len, List.length_map] at p2
  rw [rngD_len, Nat.zero_add] at k2
  obtain ⟨x, b3, q3, x0, x1, k3⟩ := take_at (n + 2) b2 4 _ k2 (by omega) (by decide) (by decide)
  have rg := rngO_n (i := 0) (j := (j : Int)) (n := j) (by omega) (by omega) (by omega) (by omega) (by omega)
  have zl : (cs.map (ptD DK)).length ≤ sizeLine := by rw [List.length_map, line_is]; omega
  rw [at_def qd43 rfl rfl]
  by_cases c0 : x = 0
  · subst c0
    obtain ⟨p, t, rfl⟩ : ∃ p t, cs = p :: t := List.exists_cons_of_ne_nil (fun z => by rw [z] at p2; simp at p2; omega)
    obtain ⟨u, v, ep, u0, u1, v0, v1⟩ := hc p (by simp)
    have dk : DK = 6 * KK := rfl
    have D0 := DK0
    have K0 := KK0
    have c2 := compD_mapF (turn := lcTurn (runP cons FU defs (n + 3)) cons [("_law_k", 5)] (.n 5) .yes (.tup (.cons (.call 26 (.cons (.ix (.x 3) (.k (.int 0))) (.cons (.tup (.cons (.x 5) (.cons (.k (.int 1)) .nil))) .nil))) (.cons (.call 26 (.cons (.ix (.x 3) (.k (.int 1))) (.cons (.call 25 (.cons (.x 5) (.cons (.k (.int 2)) .nil))) .nil))) .nil)))) (fun i : Nat => PyData.int (0 + (i : Int))) (fun i : Nat => ptD DK (3 * KK * (u + 2 * i), KK * (v + 3 * i)))
      [some (.b b3.d), some (.v B.d), some (.o ((p :: t).map (ptD DK))), some (.v (ptD DK p)), none, none] (List.range 4) (fun i hi => by
        have hi := List.mem_range.mp hi
        have r := ratio_at (n + 2) (i : Int) 2 (k := 2) (by unfold Bd; decide) (by decide) (by decide)
        rw [gq (c := 3 * KK) (by decide) (by omega) (by omega)] at r
        have pl1 := lplus_q (n + 1) (x := 3 * KK * u) (y := (i : Int) * DK) ((KKb.2.1.mul (show Bd 2 u by unfold Bd; omega)).mono (by decide)) (((show Bd 2 (i : Int) by unfold Bd; omega).mul KKb.2.2.1).mono (by decide))
        have pl2 := lplus_q (n + 1) (x := KK * v) (y := (i : Int) * (3 * KK)) ((KKb.1.mul (show Bd 5 v by unfold Bd; omega)).mono (by decide)) (((show Bd 2 (i : Int) by unfold Bd; omega).mul KKb.2.1).mono (by decide))
        have e1 : 3 * KK * u + (i : Int) * DK = 3 * KK * (u + 2 * i) := by rw [dk]; grind
        have e2 : KK * v + (i : Int) * (3 * KK) = KK * (v + 3 * i) := by grind
        rw [e1, ← wh_q] at pl1
        rw [e2] at pl2
        have i0 := pt_0 DK p
        have i1 := pt_1 DK p
        have er : ptD DK (3 * KK * (u + 2 * (i : Int)), KK * (v + 3 * (i : Int))) = .tuple [frD (qF DK (3 * KK * (u + 2 * i))), frD (qF DK (KK * (v + 3 * i)))] := rfl
        have p1e : p.1 = 3 * KK * u := by rw [ep]
        have p2e : p.2 = KK * v := by rw [ep]
        rw [p1e] at i0
        rw [p2e] at i1
        rw [er, Int.zero_add]
        exact lline_turn (runP cons FU defs (n + 3)) i (ptD DK p) _ _ _ _ _ i0 i1 r pl1 pl2 _ _ _)
    rw [← rngD_map] at c2
    have em : (List.range 4).map (fun i : Nat => ptD DK (3 * KK * (u + 2 * i), KK * (v + 3 * i))) = ((List.range 4).map fun i : Nat => ((3 * KK * (u + 2 * (i : Int)), KK * (v + 3 * (i : Int))) : Pt)).map (ptD DK) := by rw [List.map_map]; rfl
    rw [em] at c2
    obtain ⟨L, hL⟩ : ∃ L : List Pt, L = (List.range 4).map fun i : Nat => ((3 * KK * (u + 2 * (i : Int)), KK * (v + 3 * (i : Int))) : Pt) := ⟨_, rfl⟩
    rw [← hL] at c2
    have lL : L.length = 4 := by rw [hL]; simp
    obtain ⟨l, b4, q4, hp, k4⟩ := mixed_at (n + 1) (ptD DK) L b3 _ k3 (by omega) (by omega)
    refine ⟨l, _, b4, ?_, .inl rfl, by rw [hp.length_eq]; omega, by rw [hp.length_eq]; omega, fun q hq => ?_, k4.mono (by omega)⟩
    · have z4 : (L.map (ptD DK)).length ≤ sizeLine := by rw [List.length_map, line_is]; omega
      have i0 : atI ((p :: t).map (ptD DK)) 0 = some (ptD DK p) := at_i0 _ _
      have rg4 := rngO_n (i := 0) (j := 4) (n := 4) (by decide) (by decide) (by decide) (by decide) (by decide)
      generalize (p :: t).map (ptD DK) = CL at *
      generalize L.map (ptD DK) = LL at *
      generalize l.map (ptD DK) = RR at *
      generalize ptD DK p = P at *
      simp [qd43, qb43, startE_eq, List.replicate_succ, q1, rg, rg4, runE_lc, noOwn, wipeE, backE, cm, zl, z4, q3, i0, c2, q4]
    · have := hp.mem_iff.mp hq
      rw [hL] at this
      obtain ⟨i, hi, rfl⟩ := List.mem_map.mp this
      have hi := List.mem_range.mp hi
      exact ⟨_, _, rfl, by omega, by omega, by omega, by omega⟩
  · obtain ⟨y, b4, q4, y0, y1, k4⟩ := take_at (n + 2) b3 3 _ k3 (by omega) (by decide) (by decide)
    by_cases c1 : y = 0
    · subst c1
      refine ⟨cs ++ cs.take 1, _, b4, ?_, .inl rfl, by rw [List.length_append]; omega, by rw [List.length_append, List.length_take]; omega, fun q hq => ?_, k4.mono (by omega)⟩
      · have cu : cutL (cs.map (ptD DK)) none (some ((1 : Nat) : Int)) = (cs.take 1).map (ptD DK) := by rw [cut_hi, List.map_take]
        have cu : cutL (cs.map (ptD DK)) none (some 1) = (cs.take 1).map (ptD DK) := cu
        have zz : (cs.map (ptD DK)).length + ((cs.take 1).map (ptD DK)).length ≤ sizeLine := by
          rw [List.length_map, List.length_map, List.length_take, line_is]
          omega
        rw [List.map_append]
        generalize (cs.take 1).map (ptD DK) = C1 at *
        generalize cs.map (ptD DK) = CL at *
        simp [qd43, qb43, startE_eq, List.replicate_succ, q1, rg, runE_lc, noOwn, wipeE, backE, cm, zl, q3, c0, q4, cu, zz]
        done
      · rcases List.mem_append.mp hq with hq | hq
        · exact (hc q hq).mono (by decide)
        · exact (hc q (List.mem_of_mem_take hq)).mono (by decide)
    · refine ⟨cs, _, b4, ?_, .inr rfl, by omega, by omega, fun q hq => (hc q hq).mono (by decide), k4.mono (by omega)⟩
      generalize cs.map (ptD DK) = CL at *
      simp [qd43, qb43, startE_eq, List.replicate_succ, q1, rg, runE_lc, noOwn, wipeE, backE, cm, zl, q3, c0, q4, c1]

--part
/-! the polygon of a line: all of it in it -/
theorem lies_line {line : List Pt} (hs : line.Pairwise lexB) {p : Pt} (hp : p ∈ line) : liesP (polyL line) p := by
  by_cases h2 : 2 ≤ line.length
  · obtain ⟨m, M, s1, s2, T⟩ := two_ex hs h2
    rw [T.poly hs h2]
    obtain ⟨g1, g2⟩ := T.heads
    have n1 : 1 ≤ s1.length := by
      cases hq : s1 with
      | nil => rw [hq] at g1; cases g1
      | cons _ _ => simp
    have n2 : 1 ≤ s2.length := by
      cases hq : s2 with
      | nil => rw [hq] at g2; cases g2
      | cons _ _ => simp
    have al := T.all
    have len : (s1.reverse ++ s2.reverse).length = s1.length + s2.length := by simp
    by_cases c2 : s1.length + s2.length = 2
    · obtain ⟨a, ha⟩ := List.length_eq_one_iff.mp (show s1.length = 1 by omega)
      obtain ⟨b, hb⟩ := List.length_eq_one_iff.mp (show s2.length = 1 by omega)
      rw [ha] at g1
      rw [hb] at g2
      have g1 : a = m := by simpa using g1
      have g2 : b = M := by simpa using g2
      subst g1 g2
      rw [ha, hb] at al ⊢
      have c0 := al (a, b) (by simp [fed]) p hp
      have c1 := al (b, a) (by simp [fed]) p hp
      simp only at c0 c1
      rw [cross_swap] at c1
      have cz : cross a b p = 0 := by omega
      have lo := T.lo p hp
      have hi := T.hi p hp
      have ne := T.ne
      refine .inr (.inl ⟨a, b, rfl, ?_, ?_, cz⟩)
      · left
        constructor
        · rcases lo with rfl | lo
          · exact Int.le_refl _
          · unfold lexB at lo; omega
        · rcases hi with rfl | hi
          · exact Int.le_refl _
          · unfold lexB at hi; omega
      · by_cases z : a.1 < b.1
        · have x1 : a.1 ≤ p.1 := by
            rcases lo with rfl | lo
            · exact Int.le_refl _
            · unfold lexB at lo; omega
          have x2 : p.1 ≤ b.1 := by
            rcases hi with rfl | hi
            · exact Int.le_refl _
            · unfold lexB at hi; omega
          exact seg_y z x1 x2 cz
        · left
          unfold lexB at ne
          constructor
          · rcases lo with rfl | lo
            · exact Int.le_refl _
            · rcases hi with rfl | hi
              · omega
              · unfold lexB at lo hi; omega
          · rcases hi with rfl | hi
            · exact Int.le_refl _
            · rcases lo with rfl | lo
              · omega
              · unfold lexB at lo hi; omega
    · refine .inr (.inr ⟨by omega, fun e he => ?_⟩)
      rw [T.edg_is] at he
      exact al e he p hp
  · have e : polyL line = line := by
      unfold polyL
      rw [if_pos (by omega)]
    rw [e]
    exact .inl ⟨by omega, hp⟩
theorem lex_uniq : ∀ {a b : List Pt}, a.Pairwise lexB → b.Pairwise lexB → (∀ p, p ∈ a ↔ p ∈ b) → a = b
  | [], [], _, _, _ => rfl
  | [], y :: b, _, _, h => by
    have := (h y).mpr (by simp)
    cases this
  | x :: a, [], _, _, h => by
    have := (h x).mp (by simp)
    cases this
  | x :: a, y :: b, ha, hb, h => by
    obtain ⟨a1, a2⟩ := List.pairwise_cons.mp ha
    obtain ⟨b1, b2⟩ := List.pairwise_cons.mp hb
    have irr : ∀ {p q : Pt}, lexB p q → ¬ lexB q p := fun h h' => by unfold lexB at h h'; omega
    have e : x = y := by
      rcases List.mem_cons.mp ((h x).mp (by simp)) with e | e
      · exact e
      · rcases List.mem_cons.mp ((h y).mpr (by simp)) with e' | e'
        · exact e'.symm
        · exact absurd (b1 x e) (irr (a1 y e'))
    subst e
    congr 1
    refine lex_uniq a2 b2 fun p => ?_
    have nx : ∀ {l : List Pt}, (∀ q ∈ l, lexB x q) → x ∉ l := fun hl hx => absurd (hl x hx) (fun z => irr z z)
    constructor
    · intro hp
      rcases List.mem_cons.mp ((h p).mp (List.mem_cons_of_mem _ hp)) with rfl | e
      · exact absurd hp (nx a1)
      · exact e
    · intro hp
      rcases List.mem_cons.mp ((h p).mpr (List.mem_cons_of_mem _ hp)) with rfl | e
      · exact absurd hp (nx b1)
      · exact e
/-- the first one of it is the least, one of it is over the last place -/
theorem polyL_ends {line : List Pt} (hs : line.Pairwise lexB) (h1 : 1 ≤ line.length) : ∃ m t, polyL line = m :: t ∧ (∀ p ∈ line, m.1 ≤ p.1) ∧ ∃ M ∈ polyL line, ∀ p ∈ line, p.1 ≤ M.1 := by
  by_cases h2 : 2 ≤ line.length
  · obtain ⟨m, M, s1, s2, T⟩ := two_ex hs h2
    rw [T.poly hs h2]
    have tk := T.take1
    obtain ⟨g1, g2⟩ := T.heads
    cases hG : s1.reverse ++ s2.reverse with
    | nil =>
      rw [hG] at tk
      cases tk
    | cons x t =>
      rw [hG] at tk
      have : x = m := by simpa using tk
      subst this
      refine ⟨x, t, rfl, fun p hp => ?_, M, ?_, fun p hp => ?_⟩
      · rcases T.lo p hp with rfl | h
        · exact Int.le_refl _
        · unfold lexB at h; omega
      · rw [← hG]
        exact List.mem_append_right _ (List.mem_reverse.mpr (List.mem_of_getLast? g2))
      · rcases T.hi p hp with rfl | h
        · exact Int.le_refl _
        · unfold lexB at h; omega
  · have e : polyL line = line := by
      unfold polyL
      rw [if_pos (by omega)]
    rw [e]
    match line, h1, h2 with
    | [a], _, _ => exact ⟨a, [], rfl, fun p hp => by rw [List.mem_singleton.mp hp]; exact Int.le_refl _, a, by simp, fun p hp => by rw [List.mem_singleton.mp hp]; exact Int.le_refl _⟩
    | _ :: _ :: _, _, h2 => exact absurd (by simp) h2

--part
theorem lo_alk {D : Int} (h0 : 0 < D) (hD : Bd 60 D) {S : List Int} {r : Option (Int × Int)} (hr : IsR S r) (hb : ∀ y ∈ S, Bd 60 y) : Alk2 (loD D r) := by
  cases r with
  | none => exact (Sm.non 0 0).alk (by decide) (by decide)
  | some r =>
    obtain ⟨r1, r2, _⟩ := hr
    exact (Sm.tup (k := 1) (b := 2) (xs := [frD (qF D r.1), frD (qF D r.2)]) (fun x hx => by
      simp only [List.mem_cons, List.not_mem_nil, or_false] at hx
      rcases hx with rfl | rfl
      · exact (qfr h0 hD (hb _ r1)).sm (by decide)
      · exact (qfr h0 hD (hb _ r2)).sm (by decide))).alk (by decide) (by simp)
theorem lasked_at (n : Nat) (b : List PyData) {line : List Pt} (hs : line.Pairwise lexB) (hg : ∀ p ∈ line, GP 90 p) (hl : line.length ≤ 20) (w y : Int) (hw : Bd 60 (KK * w)) (hy : Bd 60 y) : runP cons FU defs (n + 11) 44 [.b b, .v (.tuple ((polyL line).map (ptD DK))), .v (ptD DK (KK * w, y))] = some (.v (.bool true), b) := by
  have sub := polyL_sub hs
  have len := polyL_len line
  have gp : ∀ p ∈ polyL line, GP 90 p := fun p hp => hg p (sub p hp)
  have ok : ∀ p ∈ polyL line, OkP p := fun p hp => (gp p hp).ok (by decide)
  have ev := GP.even gp w
  have op : OkP (KK * w, y) := ⟨hw, hy⟩
  obtain ⟨v, q1, i1⟩ := haspoint_at DK0 DKb n (polyL line) (KK * w, y) ok op (by omega) ev
  obtain ⟨v', q2, i2⟩ := llies_at DK0 DKb (n + 6) ok (by omega) op
  have iff0 := has_iff hs (KK * w, y) ev
  have vv : v' = v := by
    have : v = true ↔ v' = true := i1.trans (iff0.trans i2.symm)
    cases v <;> cases v' <;> simp_all
  obtain ⟨r, q3, r1⟩ := longs_at DK0 DKb (n + 1) (polyL line) ok hw (by omega) ev
  obtain ⟨r', q4, r2⟩ := llongs_at DK0 DKb (n + 7) ok (by omega) hw ev
  have rr := isR_uniq r2 r1
  subst vv rr
  have a1 := alike_at (n + 9) ((Sm.bl 0 0 v').alk (by decide) (by decide))
  have a2 := alike_at (n + 9) (lo_alk DK0 DKb r1 (sL_bd ok ev))
  have i0 := pt_0 DK (KK * w, y)
  simp only at i0
  rw [at_def qd44 rfl rfl]
  generalize loD DK r' = R at *
  generalize (polyL line).map (ptD DK) = GD at *
  generalize ptD DK (KK * w, y) = P at *
  generalize frD (qF DK (KK * w)) = X at *
  simp [qd44, qb44, startE_eq, List.replicate_succ, q1, q2, a1, i0, q3, q4, a2]
theorem q_c {x y c z : Int} (hy : 0 < y) (hc : 0 < c) (h : DK = y * c) (hr : redI x y = (x, y)) (hz : x * c = z) : PyData.tuple [.int x, .int y] = frD (qF DK z) := by
  rw [← hz, ← gq hy hc h, hr]
  rfl
theorem near_turn (b : Bag) (k : Nat) (hb : b.Ok k) (hk : k ≤ 10 ^ 6) (B : B5) (hB : B.Ok) {cs line : List Pt} (hc1 : 1 ≤ cs.length) (hc2 : cs.length ≤ 10) (hcg : ∀ p ∈ cs, GP 90 p) (hs : line.Pairwise lexB) (hm : ∀ p, p ∈ line ↔ p ∈ cs) (hl : line.length ≤ cs.length) (d : PyData) :
    ∃ b' : Bag, (En.put [none, some (.o b.d), none, some (.v B.d), some (.v (.list (cs.map (ptD DK)))), none, some (.v (.tuple ((polyL line).map (ptD DK)))), none, none, none, none] 8 (.v d)).bind (fun en1 => (runB (runP cons FU defs 11) cons FU qb45_0 en1).bind fun f => some (wipF [0, 2, 5, 7, 8, 9, 10] f)) = some (.nx [none, some (.o b'.d), none, some (.v B.d), some (.v (.list (cs.map (ptD DK)))), none, some (.v (.tuple ((polyL line).map (ptD DK)))), none, none, none, none]) ∧ b'.Ok (k + 10) := by
  obtain ⟨p0, b1, q1, g0, k1⟩ := lcornerd_at 8 b k hb (by omega) B hB
  obtain ⟨v, b2, q2, hv, k2⟩ := some_at 9 b1 (cs.map (ptD DK) ++ [ptD DK p0]) _ k1 (by omega) (by simp) (by rw [List.length_append, List.length_map]; simp; omega)
  obtain ⟨c, rfl, gc⟩ : ∃ c, v = ptD DK c ∧ GP 90 c := by
    rcases List.mem_append.mp hv with hv | hv
    · obtain ⟨c, hc, rfl⟩ := List.mem_map.mp hv
      exact ⟨c, rfl, hcg c hc⟩
    · exact ⟨p0, List.mem_singleton.mp hv, g0.mono (by decide)⟩
  have oc := gc.ok (by decide)
  obtain ⟨u, y, ec, u0, u1, y0, y1⟩ := gc
  have K0 := KK0
  have D0 := DK0
  have dk : DK = 6 * KK := rfl
  obtain ⟨v, b3, q3, hv, k3⟩ := some_at 9 b2 [.tuple [.int 0, .int 1], .tuple [.int 1, .int 2], .tuple [.int (-1), .int 3]] _ k2 (by omega) (by simp) (by simp)
  obtain ⟨e, rfl, e0⟩ : ∃ e : Int, v = frD (qF DK (KK * e)) ∧ e.natAbs ≤ 3 := by
    simp only [List.mem_cons, List.not_mem_nil, or_false] at hv
    rcases hv with rfl | rfl | rfl
    · exact ⟨0, q_c (c := DK) (by decide) D0 (by omega) (by decide +kernel) (by omega), by decide⟩
    · exact ⟨3, q_c (c := 3 * KK) (by decide) (by omega) (by omega) (by decide +kernel) (by omega), by decide⟩
    · exact ⟨-2, q_c (c := 2 * KK) (by decide) (by omega) (by omega) (by decide +kernel) (by omega), by decide⟩
  obtain ⟨v, b4, q4, hv, k4⟩ := some_at 9 b3 [.tuple [.int 0, .int 1], .tuple [.int 1, .int 2], .tuple [.int (-1), .int 4]] _ k3 (by omega) (by simp) (by simp)
  obtain ⟨f, rfl, f0⟩ : ∃ f : Int, v = frD (qF DK f) ∧ Bd 46 f := by
    simp only [List.mem_cons, List.not_mem_nil, or_false] at hv
    have kb := KKb
    have C0 := CK0
    unfold Bd at kb
    rcases hv with rfl | rfl | rfl
    · exact ⟨0, q_c (c := DK) (by decide) D0 (by omega) (by decide +kernel) (by omega), by unfold Bd; decide⟩
    · exact ⟨3 * KK, q_c (c := 3 * KK) (by decide) (by omega) (by omega) (by decide +kernel) (by omega), by unfold Bd; omega⟩
    · exact ⟨-CK, q_c (c := CK) (by decide) C0.1 C0.2 (by decide +kernel) (by omega), by unfold Bd; omega⟩
  have e1 : c.1 = 3 * KK * u := by rw [ec]
  have be : Bd 60 (KK * e) := (KKb.1.mul (show Bd 2 e by unfold Bd; omega)).mono (by decide)
  have pl1 := lplus_q 9 oc.1 be
  have ev : c.1 + KK * e = KK * (3 * u + e) := by rw [e1]; grind
  rw [ev] at pl1
  have pl2 := lplus_q 9 oc.2 (f0.mono (show 46 ≤ 60 by decide))
  have by2 : Bd 60 (c.2 + f) := by
    have h2 : Bd 55 c.2 := by
      rw [ec]
      exact (KKb.1.mul (show Bd 5 y by unfold Bd; omega)).mono (by decide)
    unfold Bd at h2 f0 ⊢
    omega
  have ak := lasked_at 0 b4.d hs (fun p hp => hcg p ((hm p).mp hp)) (by omega) (3 * u + e) (c.2 + f) ((KKb.1.mul (show Bd 3 (3 * u + e) by unfold Bd; omega)).mono (by decide)) by2
  refine ⟨b4, ?_, k4.mono (by omega)⟩
  have i0 := pt_0 DK c
  have i1 := pt_1 DK c
  have er : ptD DK (KK * (3 * u + e), c.2 + f) = .tuple [frD (qF DK (KK * (3 * u + e))), frD (qF DK (c.2 + f))] := rfl
  rw [er] at ak
  have zl : (cs.map (ptD DK)).length + 1 ≤ sizeLine := by rw [List.length_map, line_is]; omega
  generalize frD (qF DK (KK * (3 * u + e))) = N1 at *
  generalize frD (qF DK (c.2 + f)) = N2 at *
  generalize frD (qF DK (KK * e)) = N3 at *
  generalize frD (qF DK f) = N4 at *
  generalize frD (qF DK c.1) = N5 at *
  generalize frD (qF DK c.2) = N6 at *
  generalize ptD DK c = C at *
  generalize ptD DK p0 = P0 at *
  generalize (polyL line).map (ptD DK) = GD at *
  generalize cs.map (ptD DK) = CL at *
  simp [qb45_0, q1, q2, zl, q3, i0, i1, pl1, q4, pl2, ak]
theorem law_turn (b : Bag) (k : Nat) (hb : b.Ok k) (hk : k ≤ 10 ^ 5) (d : PyData) : ∃ b' : Bag, ((En.put [none, some (.o b.d), none, none, none, none, none, none, none, none, none] 2 (.v d)).bind fun en1 => (runB (runP cons FU defs 11) cons FU qb45_1 en1).bind fun f => some (wipF [0, 2, 3, 4, 5, 6, 7, 8, 9, 10] f)) = some (.nx [none, some (.o b'.d), none, none, none, none, none, none, none, none, none]) ∧ b'.Ok (k + 200) := by
  obtain ⟨B, b1, q1, hB, k1⟩ := bounds_at 7 b k hb (by omega)
  obtain ⟨cs, s, b2, q2, hs, hc1, hc2, hg, k2⟩ := lcorners_at 7 b1 _ k1 (by omega) B hB
  have ok : ∀ p ∈ cs, OkP p := fun p hp => (hg p hp).ok (by decide)
  obtain ⟨line, q3, l1, l2, l3⟩ := polyof_at DK0 DKb 5 (.list (cs.map (ptD DK))) cs (.inl rfl) ok (by omega)
  have okl : ∀ p ∈ line, OkP p := fun p hp => ok p ((l2 p).mp hp)
  have P := poly_of l1 okl (by omega)
  have q4 := lispoly_at DK0 DKb 7 P
  have sub := polyL_sub l1
  have len := polyL_len line
  have h1 : 1 ≤ line.length := by
    cases cs with
    | nil => simp at hc1
    | cons x t =>
      have := (l2 x).mpr (by simp)
      exact List.length_pos_of_mem this
  have alc : Alk2 (.list (cs.map (ptD DK))) := (pts_sm DK0 DKb ok).2.alk (by decide) (by omega)
  have alt : Alk2 (.tuple ((polyL line).map (ptD DK))) := (pts_sm DK0 DKb P.ok).1.alk (by decide) (by omega)
  have rp := repr_ok alc
  have tne := shown_ne alc
  generalize PyData.shown (.list (cs.map (ptD DK))) = TX at *
  have c1 := compD_filt (turn := lcTurn (runP cons FU defs 11) cons [("_law_corner_here", 9)] (.n 9) (.e (.cmp .NotIn (.x 9) (.x 4))) (.x 9)) (ptD DK) (fun _ => false) (ptD DK) [none, some (.o b2.d), some (.v d), some (.v B.d), some (.v (.list (cs.map (ptD DK)))), some (.v (.str TX)), some (.v (.tuple ((polyL line).map (ptD DK)))), none, none, none, none] (polyL line) (fun p hp => by
    have ni := (in_pts DK0 DKb ok p).2
    rw [decide_eq_true ((l2 p).mp (sub p hp))] at ni
    clear rp tne q3 q4 alc alt
    generalize (polyL line).map (ptD DK) = GD at *
    generalize cs.map (ptD DK) = CL at *
    generalize ptD DK p = X at *
    simp [lcTurn, ni, wipeE])
  have c2 := compD_filt (turn := lcTurn (runP cons FU defs 11) cons [("_law_corner_here", 9)] (.n 9) (.not (.e (.call 40 (.cons (.x 6) (.cons (.x 9) .nil))))) (.x 9)) (ptD DK) (fun _ => false) (ptD DK) [none, some (.o b2.d), some (.v d), some (.v B.d), some (.v (.list (cs.map (ptD DK)))), some (.v (.str TX)), some (.v (.tuple ((polyL line).map (ptD DK)))), none, none, none, none] cs (fun p hp => by
    obtain ⟨v, q, iv⟩ := llies_at DK0 DKb 7 P.ok P.len (ok p hp)
    have hv : v = true := iv.mpr (lies_line l1 ((l2 p).mpr hp))
    subst hv
    clear rp tne q3 q4 alc alt c1
    generalize (polyL line).map (ptD DK) = GD at *
    generalize cs.map (ptD DK) = CL at *
    generalize ptD DK p = X at *
    simp [lcTurn, q, wipeE])
  obtain ⟨ms, b3, q5, hp, k3⟩ := mixed_at 9 (ptD DK) cs b2 _ k2 (by omega) (by omega)
  obtain ⟨line', q6, l1', l2', _⟩ := polyof_at DK0 DKb 5 (.tuple (ms.map (ptD DK))) ms (.inr rfl) (fun p hp' => ok p (hp.mem_iff.mp hp')) (by rw [hp.length_eq]; omega)
  have le : line' = line := lex_uniq l1' l1 fun p => by rw [l2', l2, hp.mem_iff]
  rw [le] at q6
  have a1 := alike_at 10 alt
  have c3 := compD_mapF (turn := lcTurn (runP cons FU defs 11) cons [("_law_corner_here", 9)] (.n 9) .yes (.ix (.x 9) (.k (.int 0)))) (ptD DK) (fun p => frD (qF DK p.1)) [none, some (.o b3.d), some (.v d), some (.v B.d), some (.v (.list (cs.map (ptD DK)))), none, some (.v (.tuple ((polyL line).map (ptD DK)))), none, none, none, none] cs (fun p hp => by
    have i0 := pt_0 DK p
    clear rp tne q3 q4 alc alt c1 c2
    generalize (polyL line).map (ptD DK) = GD at *
    generalize cs.map (ptD DK) = CL at *
    generalize ptD DK p = X at *
    simp [lcTurn, i0, wipeE])
  have c3' := compD_mapF (turn := lcTurn (runP cons FU defs 11) cons [("_law_corner_here", 9)] (.n 9) .yes (.ix (.x 9) (.k (.int 0)))) (ptD DK) (fun p => frD (qF DK p.1)) [none, some (.o b3.d), some (.v d), some (.v B.d), some (.v (.list (cs.map (ptD DK)))), some (.v (.str TX)), some (.v (.tuple ((polyL line).map (ptD DK)))), none, none, none, none] cs (fun p hp => by
    have i0 := pt_0 DK p
    clear rp tne q3 q4 alc alt c1 c2
    generalize (polyL line).map (ptD DK) = GD at *
    generalize cs.map (ptD DK) = CL at *
    generalize ptD DK p = X at *
    simp [lcTurn, i0, wipeE])
  have em : cs.map (fun p => frD (qF DK p.1)) = qs DK (cs.map (·.1)) := by
    unfold qs
    rw [List.map_map]
    rfl
  rw [em] at c3 c3'
  have bm : ∀ x ∈ cs.map (·.1), Bd 60 x := fun x hx => by
    obtain ⟨p, hp, rfl⟩ := List.mem_map.mp hx
    exact (ok p hp).1
  have q7 := lawinord_at 9 DK0 DKb (.list (qs DK (cs.map (·.1)))) (cs.map (·.1)) (.inl rfl) bm (by rw [List.length_map]; omega)
  obtain ⟨r, hr, x0, x1⟩ := ord_ends DK (cs.map (·.1)) (fun z => by
    have := congrArg List.length z
    rw [List.length_map] at this
    simp at this
    rw [this] at hc1
    simp at hc1)
  obtain ⟨m, t, eG, lo, M, hM, hi⟩ := polyL_ends l1 h1
  have q8 : runP cons FU defs 11 18 [.v (.tuple ((polyL line).map (ptD DK)))] = some (.v (.tuple [frD (qF DK r.1), frD (qF DK r.2)]), []) := by
    rw [eG]
    have Pok := P.ok
    have Pl := P.len
    rw [eG] at Pok Pl
    simp only [List.length_cons] at Pl
    obtain ⟨hi', q, ⟨p, hp1, hp2⟩, hp3⟩ := moments_at DK0 DKb 8 m t Pok (by omega)
    rw [← eG] at hp1 hp3
    have rm : IsR (cs.map (·.1)) (some (m.1, hi')) := by
      refine ⟨List.mem_map.mpr ⟨m, (l2 m).mp (sub m (by rw [eG]; simp)), rfl⟩, List.mem_map.mpr ⟨p, (l2 p).mp (sub p hp1), hp2⟩, fun y hy => ?_⟩
      obtain ⟨p', hp', rfl⟩ := List.mem_map.mp hy
      have h := (l2 p').mpr hp'
      have := lo p' h
      have := hi p' h
      have := hp3 M hM
      exact ⟨by omega, by show p'.1 ≤ hi'; omega⟩
    have := isR_uniq rm hr
    cases this
    exact q
  have a2 := alike_at 10 (lo_alk DK0 DKb hr bm)
  unfold loD at a2
  simp only at a2
  obtain ⟨e, f, b4, k4, rfl⟩ := forD_rng (body := fun d en => (En.put en 8 (.v d)).bind fun en1 => (runB (runP cons FU defs 11) cons FU qb45_0 en1).bind fun f => some (wipF [0, 2, 5, 7, 8, 9, 10] f))
    (fun i e => ∃ b : Bag, b.Ok (k + 100 + 10 * i) ∧ e = [none, some (.o b.d), none, some (.v B.d), some (.v (.list (cs.map (ptD DK)))), none, some (.v (.tuple ((polyL line).map (ptD DK)))), none, none, none, none]) 0 6 _ ⟨b3, k3.mono (by omega), rfl⟩ (by
      rintro i hi e ⟨b, hb, rfl⟩
      obtain ⟨b', q, hb'⟩ := near_turn b _ hb (by omega) B hB hc1 hc2 hg l1 l2 (by omega) (.int (0 + i))
      exact ⟨_, q, b', hb'.mono (by omega), rfl⟩)
  have rg6 := rngO_n (i := 0) (j := 6) (n := 6) (by decide) (by decide) (by decide) (by decide) (by decide)
  rw [fnil] at c1 c2
  have c1 : compD _ ((polyL line).map (ptD DK)) _ = some ([], _) := c1
  have c2 : compD _ (cs.map (ptD DK)) _ = some ([], _) := c2
  have nel := ne_le []
  have zl : (qs DK (cs.map (·.1))).length ≤ sizeLine := by rw [qs_len, List.length_map, line_is]; omega
  refine ⟨b4, ?_, k4.mono (by omega)⟩
  clear alc alt hr lo hi hM
  generalize qs DK (ordI (cs.map (·.1))) = O at *
  generalize qs DK (cs.map (·.1)) = MS at *
  generalize (polyL line).map (ptD DK) = GD at *
  generalize cs.map (ptD DK) = CL at *
  generalize ms.map (ptD DK) = ML at *
  generalize frD (qF DK r.1) = R1 at *
  generalize frD (qF DK r.2) = R2 at *
  rcases hs with rfl | rfl
  · simp [qb45_1, q1, q2, rp, q3, q4, runE_lc, noOwn, wipeE, backE, c1, c2, nel, tne, q5, q6, a1, c3, c3', zl, q7, x0, x1, q8, a2, rg6, runS_for, f]
  · simp [qb45_1, q1, q2, rp, q3, q4, runE_lc, noOwn, wipeE, backE, c1, c2, nel, tne, q5, q6, a1, c3, c3', zl, q7, x0, x1, q8, a2, rg6, runS_for, f]
theorem law_run : ∀ ns : List Int, ns.length ≤ 63 → ∃ ds, runP cons FU defs 12 45 [.v (.list (ns.map .int))] = some (.v (.bool true), ds) := by
  intro ns hn
  have g1 := bag_at 10 ns hn
  obtain ⟨e1, f1, b, hb, rfl⟩ := forD_rng (body := fun d e => (e.put 2 (.v d)).bind fun en1 => (runB (runP cons FU defs 11) cons FU qb45_1 en1).bind fun f => some (wipF [0, 2, 3, 4, 5, 6, 7, 8, 9, 10] f))
    (fun k e => ∃ b : Bag, b.Ok (200 * k + 1) ∧ e = [none, some (.o b.d), none, none, none, none, none, none, none, none, none]) 0 7 _ ⟨bag0 ns, (bag0_ok ns hn).mono (by omega), rfl⟩ (by
      rintro i hi e ⟨b, hb, rfl⟩
      obtain ⟨b', q, hb'⟩ := law_turn b _ hb (by omega) (.int (0 + i))
      exact ⟨_, q, b', hb'.mono (by omega), rfl⟩)
  have rg7 := rngO_n (i := 0) (j := 7) (n := 7) (by decide) (by decide) (by decide) (by decide) (by decide)
  obtain ⟨line, p1, _, p2, _⟩ := polyof_at DK0 DKb 5 (.list []) [] (.inl rfl) (by simp) (by simp)
  obtain ⟨line', p3, _, p4, _⟩ := polyof_at DK0 DKb 5 (.tuple []) [] (.inr rfl) (by simp) (by simp)
  have ln : line = [] := List.eq_nil_iff_forall_not_mem.mpr fun p hp => by have := (p2 p).mp hp; cases this
  have ln' : line' = [] := List.eq_nil_iff_forall_not_mem.mpr fun p hp => by have := (p4 p).mp hp; cases this
  subst ln ln'
  have p1 : runP cons FU defs 11 13 [.v (.list [])] = some (.v (.tuple []), []) := p1
  have p3 : runP cons FU defs 11 13 [.v (.tuple [])] = some (.v (.tuple []), []) := p3
  have p5 : runP cons FU defs 11 18 [.v (.tuple [])] = some (.v .none, []) := by
    have eq0 : cmpD .Eq (.tuple []) (.tuple []) = some true := eq_te _
    rw [at_def qd18 rfl rfl]
    simp [qd18, qb18, startE_eq, List.replicate_succ, eq0]
  obtain ⟨r, p6, hr⟩ := longs_at DK0 DKb 2 [] (X := DK) (by simp) DKb (by simp) (fun e he => by cases he)
  have : r = none := isR_uniq hr rfl
  subst this
  have e1 : frD (qF DK DK) = .tuple [.int 1, .int 1] := by
    have := wh_q 1
    rw [Int.one_mul] at this
    exact this.symm
  rw [e1] at p6
  have p6 : runP cons FU defs 11 17 [.v (.tuple []), .v (.tuple [.int 1, .int 1])] = some (.v .none, []) := p6
  have al := alike_at 10 ((Sm.lst (k := 1) (b := 0) (xs := [.tuple [], .tuple [], .none, .none]) (fun x hx => by
    simp only [List.mem_cons, List.not_mem_nil, or_false] at hx
    rcases hx with rfl | rfl | rfl | rfl
    · exact Sm.nt 0
    · exact Sm.nt 0
    · exact Sm.non _ _
    · exact Sm.non _ _)).alk (by decide) (by decide))
  refine ⟨[], ?_⟩
  rw [at_def qd45 rfl rfl]
  simp [qd45, qb45, startE_eq, List.replicate_succ, runS_for, rg7, g1, p1, p3, p5, p6, al, f1]
section
theorem defAt {K : PySem.W.Frag} {mg : Str → Option Value} {f : Fn} {st : Stmt} {a : Addr} {oc : Value} {od an : Option Addr} {osl : Array (Option Value)} {kV doc pm cdv ct : Value} (hm : mg f.name = some (.ref a))
    (l : K.lookup a = some ⟨oc, od, .func (PySem.W.fnOf f.name f.name (defArgs st) (defBody st) (defScope st) .none kV doc pm an cdv ct), osl⟩) (c : PySem.W.codeIn K cdv f.name = true) (k : PySem.W.keepIn K (.ref a) = true)
    (hb : ∀ us : List Value, us.length = f.ps.length → bindArgs (PySem.W.fnOf f.name f.name (defArgs st) (defBody st) (defScope st) .none kV doc pm an cdv ct) ⟨us, []⟩ = pure (f.ps.zip us)) (hc : chkA fns cons f st = true) (hr : chkR fns cons f st = true) (hx : ∀ c ∈ clsOf f, ∃ C, XcOk K mg c C) (ht : ∀ x, f.ft = some x → ∃ c P, PySem.W.tabIn K f.name = some (c, P)) : DefAt K mg fns cons f :=
  ⟨⟨a, _, st, hm, fun_mk l c k, .all hb, hc, hr⟩, hx, ht⟩
theorem all_mk {l : PySem.W.OpenLaw} {w : World} {K : PySem.W.Frag} {h : Heap} {mg : Str → Option Value} {fa : Addr} {FU : Nat} (X : K.In h) (G : h.Ns mainGlobals mg) (hfa : mg "law" = some (.ref fa))
    {f0 : Addr} {od0 an0 : Option Addr} {sl0 : Array (Option Value)} {oc0 kV0 dc0 pm0 cd0 ct0 : Value} {f1 : Addr} {od1 an1 : Option Addr} {sl1 : Array (Option Value)} {oc1 kV1 dc1 pm1 cd1 ct1 : Value} {f2 : Addr} {od2 an2 : Option Addr} {sl2 : Array (Option Value)} {oc2 kV2 dc2 pm2 cd2 ct2 : Value} {f3 : Addr} {od3 an3 : Option Addr} {sl3 : Array (Option Value)} {oc3 kV3 dc3 pm3 cd3 ct3 : Value} {f4 : Addr} {od4 an4 : Option Addr} {sl4 : Array (Option Value)} {oc4 kV4 dc4 pm4 cd4 ct4 : Value} {f5 : Addr} {od5 an5 : Option Addr} {sl5 : Array (Option Value)} {oc5 kV5 dc5 pm5 cd5 ct5 : Value} {f6 : Addr} {od6 an6 : Option Addr} {sl6 : Array (Option Value)} {oc6 kV6 dc6 pm6 cd6 ct6 : Value} {f7 : Addr} {od7 an7 : Option Addr} {sl7 : Array (Option Value)} {oc7 kV7 dc7 pm7 cd7 ct7 : Value} {f8 : Addr} {od8 an8 : Option Addr} {sl8 : Array (Option Value)} {oc8 kV8 dc8 pm8 cd8 ct8 : Value} {f9 : Addr} {od9 an9 : Option Addr} {sl9 : Array (Option Value)} {oc9 kV9 dc9 pm9 cd9 ct9 : Value} {f10 : Addr} {od10 an10 : Option Addr} {sl10 : Array (Option Value)} {oc10 kV10 dc10 pm10 cd10 ct10 : Value} {f11 : Addr} {od11 an11 : Option Addr} {sl11 : Array (Option Value)} {oc11 kV11 dc11 pm11 cd11 ct11 : Value} {f12 : Addr} {od12 an12 : Option Addr} {sl12 : Array (Option Value)} {oc12 kV12 dc12 pm12 cd12 ct12 : Value} {f13 : Addr} {od13 an13 : Option Addr} {sl13 : Array (Option Value)} {oc13 kV13 dc13 pm13 cd13 ct13 : Value} {f14 : Addr} {od14 an14 : Option Addr} {sl14 : Array (Option Value)} {oc14 kV14 dc14 pm14 cd14 ct14 : Value} {f15 : Addr} {od15 an15 : Option Addr} {sl15 : Array (Option Value)} {oc15 kV15 dc15 pm15 cd15 ct15 : Value} {f16 : Addr} {od16 an16 : Option Addr} {sl16 : Array (Option Value)} {oc16 kV16 dc16 pm16 cd16 ct16 : Value} {f17 : Addr} {od17 an17 : Option Addr} {sl17 : Array (Option Value)} {oc17 kV17 dc17 pm17 cd17 ct17 : Value} {f18 : Addr} {od18 an18 : Option Addr} {sl18 : Array (Option Value)} {oc18 kV18 dc18 pm18 cd18 ct18 : Value} {f19 : Addr} {od19 an19 : Option Addr} {sl19 : Array (Option Value)} {oc19 kV19 dc19 pm19 cd19 ct19 : Value} {f20 : Addr} {od20 an20 : Option Addr} {sl20 : Array (Option Value)} {oc20 kV20 dc20 pm20 cd20 ct20 : Value} {f21 : Addr} {od21 an21 : Option Addr} {sl21 : Array (Option Value)} {oc21 kV21 dc21 pm21 cd21 ct21 : Value} {f22 : Addr} {od22 an22 : Option Addr} {sl22 : Array (Option Value)} {oc22 kV22 dc22 pm22 cd22 ct22 : Value} {f23 : Addr} {od23 an23 : Option Addr} {sl23 : Array (Option Value)} {oc23 kV23 dc23 pm23 cd23 ct23 : Value} {f24 : Addr} {od24 an24 : Option Addr} {sl24 : Array (Option Value)} {oc24 kV24 dc24 pm24 cd24 ct24 : Value} {f25 : Addr} {od25 an25 : Option Addr} {sl25 : Array (Option Value)} {oc25 kV25 dc25 pm25 cd25 ct25 : Value} {f26 : Addr} {od26 an26 : Option Addr} {sl26 : Array (Option Value)} {oc26 kV26 dc26 pm26 cd26 ct26 : Value} {f27 : Addr} {od27 an27 : Option Addr} {sl27 : Array (Option Value)} {oc27 kV27 dc27 pm27 cd27 ct27 : Value} {f28 : Addr} {od28 an28 : Option Addr} {sl28 : Array (Option Value)} {oc28 kV28 dc28 pm28 cd28 ct28 : Value} {f29 : Addr} {od29 an29 : Option Addr} {sl29 : Array (Option Value)} {oc29 kV29 dc29 pm29 cd29 ct29 : Value} {f30 : Addr} {od30 an30 : Option Addr} {sl30 : Array (Option Value)} {oc30 kV30 dc30 pm30 cd30 ct30 : Value} {f31 : Addr} {od31 an31 : Option Addr} {sl31 : Array (Option Value)} {oc31 kV31 dc31 pm31 cd31 ct31 : Value} {f32 : Addr} {od32 an32 : Option Addr} {sl32 : Array (Option Value)} {oc32 kV32 dc32 pm32 cd32 ct32 : Value} {f33 : Addr} {od33 an33 : Option Addr} {sl33 : Array (Option Value)} {oc33 kV33 dc33 pm33 cd33 ct33 : Value} {f34 : Addr} {od34 an34 : Option Addr} {sl34 : Array (Option Value)} {oc34 kV34 dc34 pm34 cd34 ct34 : Value} {f35 : Addr} {od35 an35 : Option Addr} {sl35 : Array (Option Value)} {oc35 kV35 dc35 pm35 cd35 ct35 : Value} {f36 : Addr} {od36 an36 : Option Addr} {sl36 : Array (Option Value)} {oc36 kV36 dc36 pm36 cd36 ct36 : Value} {f37 : Addr} {od37 an37 : Option Addr} {sl37 : Array (Option Value)} {oc37 kV37 dc37 pm37 cd37 ct37 : Value} {f38 : Addr} {od38 an38 : Option Addr} {sl38 : Array (Option Value)} {oc38 kV38 dc38 pm38 cd38 ct38 : Value} {f39 : Addr} {od39 an39 : Option Addr} {sl39 : Array (Option Value)} {oc39 kV39 dc39 pm39 cd39 ct39 : Value} {f40 : Addr} {od40 an40 : Option Addr} {sl40 : Array (Option Value)} {oc40 kV40 dc40 pm40 cd40 ct40 : Value} {f41 : Addr} {od41 an41 : Option Addr} {sl41 : Array (Option Value)} {oc41 kV41 dc41 pm41 cd41 ct41 : Value} {f42 : Addr} {od42 an42 : Option Addr} {sl42 : Array (Option Value)} {oc42 kV42 dc42 pm42 cd42 ct42 : Value} {f43 : Addr} {od43 an43 : Option Addr} {sl43 : Array (Option Value)} {oc43 kV43 dc43 pm43 cd43 ct43 : Value} {f44 : Addr} {od44 an44 : Option Addr} {sl44 : Array (Option Value)} {oc44 kV44 dc44 pm44 cd44 ct44 : Value} {f45 : Addr} {od45 an45 : Option Addr} {sl45 : Array (Option Value)} {oc45 kV45 dc45 pm45 cd45 ct45 : Value}  
    (a0 : PySem.W.nsIn K mainGlobals "common" = some (some (.ref f0)))
    (l0 : K.lookup f0 = some ⟨oc0, od0, .func (PySem.W.fnOf "common" "common" (defArgs (topS 1)) (defBody (topS 1)) (defScope (topS 1)) .none kV0 dc0 pm0 an0 cd0 ct0), sl0⟩)
    (c0 : PySem.W.codeIn K cd0 "common" = true)
    (k0 : PySem.W.keepIn K (.ref f0) = true)
    (a1 : PySem.W.nsIn K mainGlobals "reduced" = some (some (.ref f1)))
    (l1 : K.lookup f1 = some ⟨oc1, od1, .func (PySem.W.fnOf "reduced" "reduced" (defArgs (topS 2)) (defBody (topS 2)) (defScope (topS 2)) .none kV1 dc1 pm1 an1 cd1 ct1), sl1⟩)
    (c1 : PySem.W.codeIn K cd1 "reduced" = true)
    (k1 : PySem.W.keepIn K (.ref f1) = true)
    (a2 : PySem.W.nsIn K mainGlobals "added" = some (some (.ref f2)))
    (l2 : K.lookup f2 = some ⟨oc2, od2, .func (PySem.W.fnOf "added" "added" (defArgs (topS 3)) (defBody (topS 3)) (defScope (topS 3)) .none kV2 dc2 pm2 an2 cd2 ct2), sl2⟩)
    (c2 : PySem.W.codeIn K cd2 "added" = true)
    (k2 : PySem.W.keepIn K (.ref f2) = true)
    (a3 : PySem.W.nsIn K mainGlobals "lessened" = some (some (.ref f3)))
    (l3 : K.lookup f3 = some ⟨oc3, od3, .func (PySem.W.fnOf "lessened" "lessened" (defArgs (topS 4)) (defBody (topS 4)) (defScope (topS 4)) .none kV3 dc3 pm3 an3 cd3 ct3), sl3⟩)
    (c3 : PySem.W.codeIn K cd3 "lessened" = true)
    (k3 : PySem.W.keepIn K (.ref f3) = true)
    (a4 : PySem.W.nsIn K mainGlobals "times" = some (some (.ref f4)))
    (l4 : K.lookup f4 = some ⟨oc4, od4, .func (PySem.W.fnOf "times" "times" (defArgs (topS 5)) (defBody (topS 5)) (defScope (topS 5)) .none kV4 dc4 pm4 an4 cd4 ct4), sl4⟩)
    (c4 : PySem.W.codeIn K cd4 "times" = true)
    (k4 : PySem.W.keepIn K (.ref f4) = true)
    (a5 : PySem.W.nsIn K mainGlobals "over" = some (some (.ref f5)))
    (l5 : K.lookup f5 = some ⟨oc5, od5, .func (PySem.W.fnOf "over" "over" (defArgs (topS 6)) (defBody (topS 6)) (defScope (topS 6)) .none kV5 dc5 pm5 an5 cd5 ct5), sl5⟩)
    (c5 : PySem.W.codeIn K cd5 "over" = true)
    (k5 : PySem.W.keepIn K (.ref f5) = true)
    (a6 : PySem.W.nsIn K mainGlobals "compared" = some (some (.ref f6)))
    (l6 : K.lookup f6 = some ⟨oc6, od6, .func (PySem.W.fnOf "compared" "compared" (defArgs (topS 7)) (defBody (topS 7)) (defScope (topS 7)) .none kV6 dc6 pm6 an6 cd6 ct6), sl6⟩)
    (c6 : PySem.W.codeIn K cd6 "compared" = true)
    (k6 : PySem.W.keepIn K (.ref f6) = true)
    (a7 : PySem.W.nsIn K mainGlobals "least_of" = some (some (.ref f7)))
    (l7 : K.lookup f7 = some ⟨oc7, od7, .func (PySem.W.fnOf "least_of" "least_of" (defArgs (topS 8)) (defBody (topS 8)) (defScope (topS 8)) .none kV7 dc7 pm7 an7 cd7 ct7), sl7⟩)
    (c7 : PySem.W.codeIn K cd7 "least_of" = true)
    (k7 : PySem.W.keepIn K (.ref f7) = true)
    (a8 : PySem.W.nsIn K mainGlobals "greatest_of" = some (some (.ref f8)))
    (l8 : K.lookup f8 = some ⟨oc8, od8, .func (PySem.W.fnOf "greatest_of" "greatest_of" (defArgs (topS 9)) (defBody (topS 9)) (defScope (topS 9)) .none kV8 dc8 pm8 an8 cd8 ct8), sl8⟩)
    (c8 : PySem.W.codeIn K cd8 "greatest_of" = true)
    (k8 : PySem.W.keepIn K (.ref f8) = true)
    (a9 : PySem.W.nsIn K mainGlobals "compared_corners" = some (some (.ref f9)))
    (l9 : K.lookup f9 = some ⟨oc9, od9, .func (PySem.W.fnOf "compared_corners" "compared_corners" (defArgs (topS 11)) (defBody (topS 11)) (defScope (topS 11)) .none kV9 dc9 pm9 an9 cd9 ct9), sl9⟩)
    (c9 : PySem.W.codeIn K cd9 "compared_corners" = true)
    (k9 : PySem.W.keepIn K (.ref f9) = true)
    (a10 : PySem.W.nsIn K mainGlobals "in_order" = some (some (.ref f10)))
    (l10 : K.lookup f10 = some ⟨oc10, od10, .func (PySem.W.fnOf "in_order" "in_order" (defArgs (topS 12)) (defBody (topS 12)) (defScope (topS 12)) .none kV10 dc10 pm10 an10 cd10 ct10), sl10⟩)
    (c10 : PySem.W.codeIn K cd10 "in_order" = true)
    (k10 : PySem.W.keepIn K (.ref f10) = true)
    (a11 : PySem.W.nsIn K mainGlobals "do_turn_left" = some (some (.ref f11)))
    (l11 : K.lookup f11 = some ⟨oc11, od11, .func (PySem.W.fnOf "do_turn_left" "do_turn_left" (defArgs (topS 13)) (defBody (topS 13)) (defScope (topS 13)) .none kV11 dc11 pm11 an11 cd11 ct11), sl11⟩)
    (c11 : PySem.W.codeIn K cd11 "do_turn_left" = true)
    (k11 : PySem.W.keepIn K (.ref f11) = true)
    (a12 : PySem.W.nsIn K mainGlobals "half_round" = some (some (.ref f12)))
    (l12 : K.lookup f12 = some ⟨oc12, od12, .func (PySem.W.fnOf "half_round" "half_round" (defArgs (topS 14)) (defBody (topS 14)) (defScope (topS 14)) .none kV12 dc12 pm12 an12 cd12 ct12), sl12⟩)
    (c12 : PySem.W.codeIn K cd12 "half_round" = true)
    (k12 : PySem.W.keepIn K (.ref f12) = true)
    (a13 : PySem.W.nsIn K mainGlobals "polygon_of" = some (some (.ref f13)))
    (l13 : K.lookup f13 = some ⟨oc13, od13, .func (PySem.W.fnOf "polygon_of" "polygon_of" (defArgs (topS 15)) (defBody (topS 15)) (defScope (topS 15)) .none kV13 dc13 pm13 an13 cd13 ct13), sl13⟩)
    (c13 : PySem.W.codeIn K cd13 "polygon_of" = true)
    (k13 : PySem.W.keepIn K (.ref f13) = true)
    (a14 : PySem.W.nsIn K mainGlobals "crossing" = some (some (.ref f14)))
    (l14 : K.lookup f14 = some ⟨oc14, od14, .func (PySem.W.fnOf "crossing" "crossing" (defArgs (topS 16)) (defBody (topS 16)) (defScope (topS 16)) .none kV14 dc14 pm14 an14 cd14 ct14), sl14⟩)
    (c14 : PySem.W.codeIn K cd14 "crossing" = true)
    (k14 : PySem.W.keepIn K (.ref f14) = true)
    (a15 : PySem.W.nsIn K mainGlobals "cut_off" = some (some (.ref f15)))
    (l15 : K.lookup f15 = some ⟨oc15, od15, .func (PySem.W.fnOf "cut_off" "cut_off" (defArgs (topS 17)) (defBody (topS 17)) (defScope (topS 17)) .none kV15 dc15 pm15 an15 cd15 ct15), sl15⟩)
    (c15 : PySem.W.codeIn K cd15 "cut_off" = true)
    (k15 : PySem.W.keepIn K (.ref f15) = true)
    (a16 : PySem.W.nsIn K mainGlobals "cut_to" = some (some (.ref f16)))
    (l16 : K.lookup f16 = some ⟨oc16, od16, .func (PySem.W.fnOf "cut_to" "cut_to" (defArgs (topS 18)) (defBody (topS 18)) (defScope (topS 18)) .none kV16 dc16 pm16 an16 cd16 ct16), sl16⟩)
    (c16 : PySem.W.codeIn K cd16 "cut_to" = true)
    (k16 : PySem.W.keepIn K (.ref f16) = true)
    (a17 : PySem.W.nsIn K mainGlobals "longs_at" = some (some (.ref f17)))
    (l17 : K.lookup f17 = some ⟨oc17, od17, .func (PySem.W.fnOf "longs_at" "longs_at" (defArgs (topS 19)) (defBody (topS 19)) (defScope (topS 19)) .none kV17 dc17 pm17 an17 cd17 ct17), sl17⟩)
    (c17 : PySem.W.codeIn K cd17 "longs_at" = true)
    (k17 : PySem.W.keepIn K (.ref f17) = true)
    (a18 : PySem.W.nsIn K mainGlobals "moments_in" = some (some (.ref f18)))
    (l18 : K.lookup f18 = some ⟨oc18, od18, .func (PySem.W.fnOf "moments_in" "moments_in" (defArgs (topS 20)) (defBody (topS 20)) (defScope (topS 20)) .none kV18 dc18 pm18 an18 cd18 ct18), sl18⟩)
    (c18 : PySem.W.codeIn K cd18 "moments_in" = true)
    (k18 : PySem.W.keepIn K (.ref f18) = true)
    (a19 : PySem.W.nsIn K mainGlobals "has_point" = some (some (.ref f19)))
    (l19 : K.lookup f19 = some ⟨oc19, od19, .func (PySem.W.fnOf "has_point" "has_point" (defArgs (topS 21)) (defBody (topS 21)) (defScope (topS 21)) .none kV19 dc19 pm19 an19 cd19 ct19), sl19⟩)
    (c19 : PySem.W.codeIn K cd19 "has_point" = true)
    (k19 : PySem.W.keepIn K (.ref f19) = true)
    (a20 : PySem.W.nsIn K mainGlobals "_law_bag" = some (some (.ref f20)))
    (l20 : K.lookup f20 = some ⟨oc20, od20, .func (PySem.W.fnOf "_law_bag" "_law_bag" (defArgs (topS 23)) (defBody (topS 23)) (defScope (topS 23)) .none kV20 dc20 pm20 an20 cd20 ct20), sl20⟩)
    (c20 : PySem.W.codeIn K cd20 "_law_bag" = true)
    (k20 : PySem.W.keepIn K (.ref f20) = true)
    (a21 : PySem.W.nsIn K mainGlobals "_law_take" = some (some (.ref f21)))
    (l21 : K.lookup f21 = some ⟨oc21, od21, .func (PySem.W.fnOf "_law_take" "_law_take" (defArgs (topS 24)) (defBody (topS 24)) (defScope (topS 24)) .none kV21 dc21 pm21 an21 cd21 ct21), sl21⟩)
    (c21 : PySem.W.codeIn K cd21 "_law_take" = true)
    (k21 : PySem.W.keepIn K (.ref f21) = true)
    (a22 : PySem.W.nsIn K mainGlobals "_law_some" = some (some (.ref f22)))
    (l22 : K.lookup f22 = some ⟨oc22, od22, .func (PySem.W.fnOf "_law_some" "_law_some" (defArgs (topS 25)) (defBody (topS 25)) (defScope (topS 25)) .none kV22 dc22 pm22 an22 cd22 ct22), sl22⟩)
    (c22 : PySem.W.codeIn K cd22 "_law_some" = true)
    (k22 : PySem.W.keepIn K (.ref f22) = true)
    (a23 : PySem.W.nsIn K mainGlobals "_law_mixed" = some (some (.ref f23)))
    (l23 : K.lookup f23 = some ⟨oc23, od23, .func (PySem.W.fnOf "_law_mixed" "_law_mixed" (defArgs (topS 26)) (defBody (topS 26)) (defScope (topS 26)) .none kV23 dc23 pm23 an23 cd23 ct23), sl23⟩)
    (c23 : PySem.W.codeIn K cd23 "_law_mixed" = true)
    (k23 : PySem.W.keepIn K (.ref f23) = true)
    (a24 : PySem.W.nsIn K mainGlobals "_law_alike" = some (some (.ref f24)))
    (l24 : K.lookup f24 = some ⟨oc24, od24, .func (PySem.W.fnOf "_law_alike" "_law_alike" (defArgs (topS 27)) (defBody (topS 27)) (defScope (topS 27)) .none kV24 dc24 pm24 an24 cd24 ct24), sl24⟩)
    (c24 : PySem.W.codeIn K cd24 "_law_alike" = true)
    (k24 : PySem.W.keepIn K (.ref f24) = true)
    (a25 : PySem.W.nsIn K mainGlobals "_law_ratio" = some (some (.ref f25)))
    (l25 : K.lookup f25 = some ⟨oc25, od25, .func (PySem.W.fnOf "_law_ratio" "_law_ratio" (defArgs (topS 28)) (defBody (topS 28)) (defScope (topS 28)) .none kV25 dc25 pm25 an25 cd25 ct25), sl25⟩)
    (c25 : PySem.W.codeIn K cd25 "_law_ratio" = true)
    (k25 : PySem.W.keepIn K (.ref f25) = true)
    (a26 : PySem.W.nsIn K mainGlobals "_law_plus" = some (some (.ref f26)))
    (l26 : K.lookup f26 = some ⟨oc26, od26, .func (PySem.W.fnOf "_law_plus" "_law_plus" (defArgs (topS 29)) (defBody (topS 29)) (defScope (topS 29)) .none kV26 dc26 pm26 an26 cd26 ct26), sl26⟩)
    (c26 : PySem.W.codeIn K cd26 "_law_plus" = true)
    (k26 : PySem.W.keepIn K (.ref f26) = true)
    (a27 : PySem.W.nsIn K mainGlobals "_law_less" = some (some (.ref f27)))
    (l27 : K.lookup f27 = some ⟨oc27, od27, .func (PySem.W.fnOf "_law_less" "_law_less" (defArgs (topS 30)) (defBody (topS 30)) (defScope (topS 30)) .none kV27 dc27 pm27 an27 cd27 ct27), sl27⟩)
    (c27 : PySem.W.codeIn K cd27 "_law_less" = true)
    (k27 : PySem.W.keepIn K (.ref f27) = true)
    (a28 : PySem.W.nsIn K mainGlobals "_law_by" = some (some (.ref f28)))
    (l28 : K.lookup f28 = some ⟨oc28, od28, .func (PySem.W.fnOf "_law_by" "_law_by" (defArgs (topS 31)) (defBody (topS 31)) (defScope (topS 31)) .none kV28 dc28 pm28 an28 cd28 ct28), sl28⟩)
    (c28 : PySem.W.codeIn K cd28 "_law_by" = true)
    (k28 : PySem.W.keepIn K (.ref f28) = true)
    (a29 : PySem.W.nsIn K mainGlobals "_law_sign" = some (some (.ref f29)))
    (l29 : K.lookup f29 = some ⟨oc29, od29, .func (PySem.W.fnOf "_law_sign" "_law_sign" (defArgs (topS 32)) (defBody (topS 32)) (defScope (topS 32)) .none kV29 dc29 pm29 an29 cd29 ct29), sl29⟩)
    (c29 : PySem.W.codeIn K cd29 "_law_sign" = true)
    (k29 : PySem.W.keepIn K (.ref f29) = true)
    (a30 : PySem.W.nsIn K mainGlobals "_law_amount" = some (some (.ref f30)))
    (l30 : K.lookup f30 = some ⟨oc30, od30, .func (PySem.W.fnOf "_law_amount" "_law_amount" (defArgs (topS 33)) (defBody (topS 33)) (defScope (topS 33)) .none kV30 dc30 pm30 an30 cd30 ct30), sl30⟩)
    (c30 : PySem.W.codeIn K cd30 "_law_amount" = true)
    (k30 : PySem.W.keepIn K (.ref f30) = true)
    (a31 : PySem.W.nsIn K mainGlobals "_law_bounds" = some (some (.ref f31)))
    (l31 : K.lookup f31 = some ⟨oc31, od31, .func (PySem.W.fnOf "_law_bounds" "_law_bounds" (defArgs (topS 34)) (defBody (topS 34)) (defScope (topS 34)) .none kV31 dc31 pm31 an31 cd31 ct31), sl31⟩)
    (c31 : PySem.W.codeIn K cd31 "_law_bounds" = true)
    (k31 : PySem.W.keepIn K (.ref f31) = true)
    (a32 : PySem.W.nsIn K mainGlobals "_law_in_order" = some (some (.ref f32)))
    (l32 : K.lookup f32 = some ⟨oc32, od32, .func (PySem.W.fnOf "_law_in_order" "_law_in_order" (defArgs (topS 35)) (defBody (topS 35)) (defScope (topS 35)) .none kV32 dc32 pm32 an32 cd32 ct32), sl32⟩)
    (c32 : PySem.W.codeIn K cd32 "_law_in_order" = true)
    (k32 : PySem.W.keepIn K (.ref f32) = true)
    (a33 : PySem.W.nsIn K mainGlobals "_law_is_whole" = some (some (.ref f33)))
    (l33 : K.lookup f33 = some ⟨oc33, od33, .func (PySem.W.fnOf "_law_is_whole" "_law_is_whole" (defArgs (topS 36)) (defBody (topS 36)) (defScope (topS 36)) .none kV33 dc33 pm33 an33 cd33 ct33), sl33⟩)
    (c33 : PySem.W.codeIn K cd33 "_law_is_whole" = true)
    (k33 : PySem.W.keepIn K (.ref f33) = true)
    (a34 : PySem.W.nsIn K mainGlobals "_law_is_fraction" = some (some (.ref f34)))
    (l34 : K.lookup f34 = some ⟨oc34, od34, .func (PySem.W.fnOf "_law_is_fraction" "_law_is_fraction" (defArgs (topS 37)) (defBody (topS 37)) (defScope (topS 37)) .none kV34 dc34 pm34 an34 cd34 ct34), sl34⟩)
    (c34 : PySem.W.codeIn K cd34 "_law_is_fraction" = true)
    (k34 : PySem.W.keepIn K (.ref f34) = true)
    (a35 : PySem.W.nsIn K mainGlobals "_law_cross" = some (some (.ref f35)))
    (l35 : K.lookup f35 = some ⟨oc35, od35, .func (PySem.W.fnOf "_law_cross" "_law_cross" (defArgs (topS 38)) (defBody (topS 38)) (defScope (topS 38)) .none kV35 dc35 pm35 an35 cd35 ct35), sl35⟩)
    (c35 : PySem.W.codeIn K cd35 "_law_cross" = true)
    (k35 : PySem.W.keepIn K (.ref f35) = true)
    (a36 : PySem.W.nsIn K mainGlobals "_law_before" = some (some (.ref f36)))
    (l36 : K.lookup f36 = some ⟨oc36, od36, .func (PySem.W.fnOf "_law_before" "_law_before" (defArgs (topS 39)) (defBody (topS 39)) (defScope (topS 39)) .none kV36 dc36 pm36 an36 cd36 ct36), sl36⟩)
    (c36 : PySem.W.codeIn K cd36 "_law_before" = true)
    (k36 : PySem.W.keepIn K (.ref f36) = true)
    (a37 : PySem.W.nsIn K mainGlobals "_law_is_corner" = some (some (.ref f37)))
    (l37 : K.lookup f37 = some ⟨oc37, od37, .func (PySem.W.fnOf "_law_is_corner" "_law_is_corner" (defArgs (topS 40)) (defBody (topS 40)) (defScope (topS 40)) .none kV37 dc37 pm37 an37 cd37 ct37), sl37⟩)
    (c37 : PySem.W.codeIn K cd37 "_law_is_corner" = true)
    (k37 : PySem.W.keepIn K (.ref f37) = true)
    (a38 : PySem.W.nsIn K mainGlobals "_law_is_polygon" = some (some (.ref f38)))
    (l38 : K.lookup f38 = some ⟨oc38, od38, .func (PySem.W.fnOf "_law_is_polygon" "_law_is_polygon" (defArgs (topS 41)) (defBody (topS 41)) (defScope (topS 41)) .none kV38 dc38 pm38 an38 cd38 ct38), sl38⟩)
    (c38 : PySem.W.codeIn K cd38 "_law_is_polygon" = true)
    (k38 : PySem.W.keepIn K (.ref f38) = true)
    (a39 : PySem.W.nsIn K mainGlobals "_law_is_amid" = some (some (.ref f39)))
    (l39 : K.lookup f39 = some ⟨oc39, od39, .func (PySem.W.fnOf "_law_is_amid" "_law_is_amid" (defArgs (topS 42)) (defBody (topS 42)) (defScope (topS 42)) .none kV39 dc39 pm39 an39 cd39 ct39), sl39⟩)
    (c39 : PySem.W.codeIn K cd39 "_law_is_amid" = true)
    (k39 : PySem.W.keepIn K (.ref f39) = true)
    (a40 : PySem.W.nsIn K mainGlobals "_law_lies_in" = some (some (.ref f40)))
    (l40 : K.lookup f40 = some ⟨oc40, od40, .func (PySem.W.fnOf "_law_lies_in" "_law_lies_in" (defArgs (topS 43)) (defBody (topS 43)) (defScope (topS 43)) .none kV40 dc40 pm40 an40 cd40 ct40), sl40⟩)
    (c40 : PySem.W.codeIn K cd40 "_law_lies_in" = true)
    (k40 : PySem.W.keepIn K (.ref f40) = true)
    (a41 : PySem.W.nsIn K mainGlobals "_law_longs" = some (some (.ref f41)))
    (l41 : K.lookup f41 = some ⟨oc41, od41, .func (PySem.W.fnOf "_law_longs" "_law_longs" (defArgs (topS 44)) (defBody (topS 44)) (defScope (topS 44)) .none kV41 dc41 pm41 an41 cd41 ct41), sl41⟩)
    (c41 : PySem.W.codeIn K cd41 "_law_longs" = true)
    (k41 : PySem.W.keepIn K (.ref f41) = true)
    (a42 : PySem.W.nsIn K mainGlobals "_law_corner" = some (some (.ref f42)))
    (l42 : K.lookup f42 = some ⟨oc42, od42, .func (PySem.W.fnOf "_law_corner" "_law_corner" (defArgs (topS 45)) (defBody (topS 45)) (defScope (topS 45)) .none kV42 dc42 pm42 an42 cd42 ct42), sl42⟩)
    (c42 : PySem.W.codeIn K cd42 "_law_corner" = true)
    (k42 : PySem.W.keepIn K (.ref f42) = true)
    (a43 : PySem.W.nsIn K mainGlobals "_law_some_corners" = some (some (.ref f43)))
    (l43 : K.lookup f43 = some ⟨oc43, od43, .func (PySem.W.fnOf "_law_some_corners" "_law_some_corners" (defArgs (topS 46)) (defBody (topS 46)) (defScope (topS 46)) .none kV43 dc43 pm43 an43 cd43 ct43), sl43⟩)
    (c43 : PySem.W.codeIn K cd43 "_law_some_corners" = true)
    (k43 : PySem.W.keepIn K (.ref f43) = true)
    (a44 : PySem.W.nsIn K mainGlobals "_law_is_asked_right" = some (some (.ref f44)))
    (l44 : K.lookup f44 = some ⟨oc44, od44, .func (PySem.W.fnOf "_law_is_asked_right" "_law_is_asked_right" (defArgs (topS 47)) (defBody (topS 47)) (defScope (topS 47)) .none kV44 dc44 pm44 an44 cd44 ct44), sl44⟩)
    (c44 : PySem.W.codeIn K cd44 "_law_is_asked_right" = true)
    (k44 : PySem.W.keepIn K (.ref f44) = true)
    (a45 : PySem.W.nsIn K mainGlobals "law" = some (some (.ref f45)))
    (l45 : K.lookup f45 = some ⟨oc45, od45, .func (PySem.W.fnOf "law" "law" (defArgs (topS 48)) (defBody (topS 48)) (defScope (topS 48)) .none kV45 dc45 pm45 an45 cd45 ct45), sl45⟩)
    (c45 : PySem.W.codeIn K cd45 "law" = true)
    (k45 : PySem.W.keepIn K (.ref f45) = true)
    (z0 : PySem.W.nsIn K mainGlobals "len" = some none)
    (z1 : PySem.W.nsIn K mainGlobals "abs" = some none)
    (z2 : PySem.W.nsIn K mainGlobals "int" = some none)
    (z3 : PySem.W.nsIn K mainGlobals "max" = some none)
    (z4 : PySem.W.nsIn K mainGlobals "min" = some none)
    (z5 : PySem.W.nsIn K mainGlobals "sum" = some none)
    (z6 : PySem.W.nsIn K mainGlobals "all" = some none)
    (z7 : PySem.W.nsIn K mainGlobals "any" = some none)
    (z8 : PySem.W.nsIn K mainGlobals "repr" = some none)
    (z9 : PySem.W.nsIn K mainGlobals "tuple" = some none)
    (z10 : PySem.W.nsIn K mainGlobals "list" = some none)
    (z11 : PySem.W.nsIn K mainGlobals "sorted" = some none)
    (z12 : PySem.W.nsIn K mainGlobals "str" = some none)
    (z13 : PySem.W.nsIn K mainGlobals "range" = some none)
    (z14 : PySem.W.nsIn K mainGlobals "zip" = some none)
    (z15 : PySem.W.nsIn K mainGlobals "enumerate" = some none)
    (z16 : PySem.W.nsIn K mainGlobals "isinstance" = some none)
    (z17 : PySem.W.nsIn K mainGlobals "bool" = some none)
    (z18 : PySem.W.nsIn K mainGlobals "dict" = some none)
    (z19 : PySem.W.nsIn K mainGlobals "divmod" = some none)
    (z20 : PySem.W.nsIn K mainGlobals "set" = some none)
    (v0 : PySem.W.nsIn K mainGlobals "turn" = some none)
    (v1 : PySem.W.nsIn K mainGlobals "least_lead_that" = some none)
    (kl : noLB K = true)
    : ∃ fd : FuncData, (∀ (s : Shared) (v : Value), BindsTo s fd ⟨[v], []⟩ [("_law_script", v)]) ∧ TabW K ∧ (∀ y ∈ lamNames, y ∉ ([] : List Str) → PySem.W.tabIn K y = none) ∧ ∀ base : Heap, TabK K mg base → FnG l.prog w K mg base 34 fa fd ["_law_script"] (runP cons FU defs 12 45) := by
  have e := hfa.symm.trans (PySem.W.mg_of X G a45)
  cases e
  have hb : ∀ x ∈ blts, mg x = none := by
    intro x hx
    simp only [blts, List.mem_cons, List.not_mem_nil, or_false] at hx
    rcases hx with rfl | rfl | rfl | rfl | rfl | rfl | rfl | rfl | rfl | rfl | rfl | rfl | rfl | rfl | rfl | rfl | rfl | rfl | rfl | rfl | rfl
    · exact PySem.W.mg_none_of X G z0
    · exact PySem.W.mg_none_of X G z1
    · exact PySem.W.mg_none_of X G z2
    · exact PySem.W.mg_none_of X G z3
    · exact PySem.W.mg_none_of X G z4
    · exact PySem.W.mg_none_of X G z5
    · exact PySem.W.mg_none_of X G z6
    · exact PySem.W.mg_none_of X G z7
    · exact PySem.W.mg_none_of X G z8
    · exact PySem.W.mg_none_of X G z9
    · exact PySem.W.mg_none_of X G z10
    · exact PySem.W.mg_none_of X G z11
    · exact PySem.W.mg_none_of X G z12
    · exact PySem.W.mg_none_of X G z13
    · exact PySem.W.mg_none_of X G z14
    · exact PySem.W.mg_none_of X G z15
    · exact PySem.W.mg_none_of X G z16
    · exact PySem.W.mg_none_of X G z17
    · exact PySem.W.mg_none_of X G z18
    · exact PySem.W.mg_none_of X G z19
    · exact PySem.W.mg_none_of X G z20
  have hd : ∀ f ∈ defs, DefAt K mg fns cons f := by
    intro f hf
    simp only [defs, List.mem_cons, List.not_mem_nil, or_false] at hf
    rcases hf with rfl | rfl | rfl | rfl | rfl | rfl | rfl | rfl | rfl | rfl | rfl | rfl | rfl | rfl | rfl | rfl | rfl | rfl | rfl | rfl | rfl | rfl | rfl | rfl | rfl | rfl | rfl | rfl | rfl | rfl | rfl | rfl | rfl | rfl | rfl | rfl | rfl | rfl | rfl | rfl | rfl | rfl | rfl | rfl | rfl | rfl
    · exact defAt (f := qd0) (PySem.W.mg_of X G a0) l0 c0 k0 (fun us hl => match us, hl with | [_, _], _ => rfl) chk0 rfl (clsOf_none rfl) (fun _ z => by cases z)
    · exact defAt (f := qd1) (PySem.W.mg_of X G a1) l1 c1 k1 (fun us hl => match us, hl with | [_, _], _ => rfl) chk1 rfl (clsOf_none rfl) (fun _ z => by cases z)
    · exact defAt (f := qd2) (PySem.W.mg_of X G a2) l2 c2 k2 (fun us hl => match us, hl with | [_, _], _ => rfl) chk2 rfl (clsOf_none rfl) (fun _ z => by cases z)
    · exact defAt (f := qd3) (PySem.W.mg_of X G a3) l3 c3 k3 (fun us hl => match us, hl with | [_, _], _ => rfl) chk3 rfl (clsOf_none rfl) (fun _ z => by cases z)
    · exact defAt (f := qd4) (PySem.W.mg_of X G a4) l4 c4 k4 (fun us hl => match us, hl with | [_, _], _ => rfl) chk4 rfl (clsOf_none rfl) (fun _ z => by cases z)
    · exact defAt (f := qd5) (PySem.W.mg_of X G a5) l5 c5 k5 (fun us hl => match us, hl with | [_, _], _ => rfl) chk5 rfl (clsOf_none rfl) (fun _ z => by cases z)
    · exact defAt (f := qd6) (PySem.W.mg_of X G a6) l6 c6 k6 (fun us hl => match us, hl with | [_, _], _ => rfl) chk6 rfl (clsOf_none rfl) (fun _ z => by cases z)
    · exact defAt (f := qd7) (PySem.W.mg_of X G a7) l7 c7 k7 (fun us hl => match us, hl with | [_], _ => rfl) chk7 rfl (clsOf_none rfl) (fun _ z => by cases z)
    · exact defAt (f := qd8) (PySem.W.mg_of X G a8) l8 c8 k8 (fun us hl => match us, hl with | [_], _ => rfl) chk8 rfl (clsOf_none rfl) (fun _ z => by cases z)
    · exact defAt (f := qd9) (PySem.W.mg_of X G a9) l9 c9 k9 (fun us hl => match us, hl with | [_, _], _ => rfl) chk9 rfl (clsOf_none rfl) (fun _ z => by cases z)
    · exact defAt (f := qd10) (PySem.W.mg_of X G a10) l10 c10 k10 (fun us hl => match us, hl with | [_], _ => rfl) chk10 rfl (clsOf_none rfl) (fun _ z => by cases z)
    · exact defAt (f := qd11) (PySem.W.mg_of X G a11) l11 c11 k11 (fun us hl => match us, hl with | [_, _, _], _ => rfl) chk11 rfl (clsOf_none rfl) (fun _ z => by cases z)
    · exact defAt (f := qd12) (PySem.W.mg_of X G a12) l12 c12 k12 (fun us hl => match us, hl with | [_], _ => rfl) chk12 rfl (clsOf_none rfl) (fun _ z => by cases z)
    · exact defAt (f := qd13) (PySem.W.mg_of X G a13) l13 c13 k13 (fun us hl => match us, hl with | [_], _ => rfl) chk13 rfl (clsOf_none rfl) (fun _ z => by cases z)
    · exact defAt (f := qd14) (PySem.W.mg_of X G a14) l14 c14 k14 (fun us hl => match us, hl with | [_, _, _, _], _ => rfl) chk14 rfl (clsOf_none rfl) (fun _ z => by cases z)
    · exact defAt (f := qd15) (PySem.W.mg_of X G a15) l15 c15 k15 (fun us hl => match us, hl with | [_, _, _, _], _ => rfl) chk15 rfl (clsOf_none rfl) (fun _ z => by cases z)
    · exact defAt (f := qd16) (PySem.W.mg_of X G a16) l16 c16 k16 (fun us hl => match us, hl with | [_, _, _], _ => rfl) chk16 rfl (clsOf_none rfl) (fun _ z => by cases z)
    · exact defAt (f := qd17) (PySem.W.mg_of X G a17) l17 c17 k17 (fun us hl => match us, hl with | [_, _], _ => rfl) chk17 rfl (clsOf_none rfl) (fun _ z => by cases z)
    · exact defAt (f := qd18) (PySem.W.mg_of X G a18) l18 c18 k18 (fun us hl => match us, hl with | [_], _ => rfl) chk18 rfl (clsOf_none rfl) (fun _ z => by cases z)
    · exact defAt (f := qd19) (PySem.W.mg_of X G a19) l19 c19 k19 (fun us hl => match us, hl with | [_, _], _ => rfl) chk19 rfl (clsOf_none rfl) (fun _ z => by cases z)
    · exact defAt (f := qd20) (PySem.W.mg_of X G a20) l20 c20 k20 (fun us hl => match us, hl with | [_], _ => rfl) chk20 rfl (clsOf_none rfl) (fun _ z => by cases z)
    · exact defAt (f := qd21) (PySem.W.mg_of X G a21) l21 c21 k21 (fun us hl => match us, hl with | [_, _], _ => rfl) chk21 rfl (clsOf_none rfl) (fun _ z => by cases z)
    · exact defAt (f := qd22) (PySem.W.mg_of X G a22) l22 c22 k22 (fun us hl => match us, hl with | [_, _], _ => rfl) chk22 rfl (clsOf_none rfl) (fun _ z => by cases z)
    · exact defAt (f := qd23) (PySem.W.mg_of X G a23) l23 c23 k23 (fun us hl => match us, hl with | [_, _], _ => rfl) chk23 rfl (clsOf_none rfl) (fun _ z => by cases z)
    · exact defAt (f := qd24) (PySem.W.mg_of X G a24) l24 c24 k24 (fun us hl => match us, hl with | [_, _], _ => rfl) chk24 rfl (clsOf_none rfl) (fun _ z => by cases z)
    · exact defAt (f := qd25) (PySem.W.mg_of X G a25) l25 c25 k25 (fun us hl => match us, hl with | [_, _], _ => rfl) chk25 rfl (clsOf_none rfl) (fun _ z => by cases z)
    · exact defAt (f := qd26) (PySem.W.mg_of X G a26) l26 c26 k26 (fun us hl => match us, hl with | [_, _], _ => rfl) chk26 rfl (clsOf_none rfl) (fun _ z => by cases z)
    · exact defAt (f := qd27) (PySem.W.mg_of X G a27) l27 c27 k27 (fun us hl => match us, hl with | [_, _], _ => rfl) chk27 rfl (clsOf_none rfl) (fun _ z => by cases z)
    · exact defAt (f := qd28) (PySem.W.mg_of X G a28) l28 c28 k28 (fun us hl => match us, hl with | [_, _], _ => rfl) chk28 rfl (clsOf_none rfl) (fun _ z => by cases z)
    · exact defAt (f := qd29) (PySem.W.mg_of X G a29) l29 c29 k29 (fun us hl => match us, hl with | [_, _], _ => rfl) chk29 rfl (clsOf_none rfl) (fun _ z => by cases z)
    · exact defAt (f := qd30) (PySem.W.mg_of X G a30) l30 c30 k30 (fun us hl => match us, hl with | [_], _ => rfl) chk30 rfl (clsOf_none rfl) (fun _ z => by cases z)
    · exact defAt (f := qd31) (PySem.W.mg_of X G a31) l31 c31 k31 (fun us hl => match us, hl with | [_], _ => rfl) chk31 rfl (clsOf_none rfl) (fun _ z => by cases z)
    · exact defAt (f := qd32) (PySem.W.mg_of X G a32) l32 c32 k32 (fun us hl => match us, hl with | [_], _ => rfl) chk32 rfl (clsOf_none rfl) (fun _ z => by cases z)
    · exact defAt (f := qd33) (PySem.W.mg_of X G a33) l33 c33 k33 (fun us hl => match us, hl with | [_], _ => rfl) chk33 rfl (clsOf_none rfl) (fun _ z => by cases z)
    · exact defAt (f := qd34) (PySem.W.mg_of X G a34) l34 c34 k34 (fun us hl => match us, hl with | [_], _ => rfl) chk34 rfl (clsOf_none rfl) (fun _ z => by cases z)
    · exact defAt (f := qd35) (PySem.W.mg_of X G a35) l35 c35 k35 (fun us hl => match us, hl with | [_, _, _], _ => rfl) chk35 rfl (clsOf_none rfl) (fun _ z => by cases z)
    · exact defAt (f := qd36) (PySem.W.mg_of X G a36) l36 c36 k36 (fun us hl => match us, hl with | [_, _], _ => rfl) chk36 rfl (clsOf_none rfl) (fun _ z => by cases z)
    · exact defAt (f := qd37) (PySem.W.mg_of X G a37) l37 c37 k37 (fun us hl => match us, hl with | [_], _ => rfl) chk37 rfl (clsOf_none rfl) (fun _ z => by cases z)
    · exact defAt (f := qd38) (PySem.W.mg_of X G a38) l38 c38 k38 (fun us hl => match us, hl with | [_], _ => rfl) chk38 rfl (clsOf_none rfl) (fun _ z => by cases z)
    · exact defAt (f := qd39) (PySem.W.mg_of X G a39) l39 c39 k39 (fun us hl => match us, hl with | [_, _, _], _ => rfl) chk39 rfl (clsOf_none rfl) (fun _ z => by cases z)
    · exact defAt (f := qd40) (PySem.W.mg_of X G a40) l40 c40 k40 (fun us hl => match us, hl with | [_, _], _ => rfl) chk40 rfl (clsOf_none rfl) (fun _ z => by cases z)
    · exact defAt (f := qd41) (PySem.W.mg_of X G a41) l41 c41 k41 (fun us hl => match us, hl with | [_, _], _ => rfl) chk41 rfl (clsOf_none rfl) (fun _ z => by cases z)
    · exact defAt (f := qd42) (PySem.W.mg_of X G a42) l42 c42 k42 (fun us hl => match us, hl with | [_, _], _ => rfl) chk42 rfl (clsOf_none rfl) (fun _ z => by cases z)
    · exact defAt (f := qd43) (PySem.W.mg_of X G a43) l43 c43 k43 (fun us hl => match us, hl with | [_, _], _ => rfl) chk43 rfl (clsOf_none rfl) (fun _ z => by cases z)
    · exact defAt (f := qd44) (PySem.W.mg_of X G a44) l44 c44 k44 (fun us hl => match us, hl with | [_, _, _], _ => rfl) chk44 rfl (clsOf_none rfl) (fun _ z => by cases z)
    · exact defAt (f := qd45) (PySem.W.mg_of X G a45) l45 c45 k45 (fun us hl => match us, hl with | [_], _ => rfl) chk45 rfl (clsOf_none rfl) (fun _ z => by cases z)
  have hc : ∀ x d, cons.lookup x = some d → ∃ u v, mg x = some u ∧ RelV v u ∧ ∀ F, Dq K F v d := by
    intro x d hx
    simp only [cons, List.lookup_cons, List.lookup_nil] at hx
    cases hx
  have FF := fun_mk (st := topS 48) l45 c45 k45
  have hno : ∀ y ∈ lamNames, y ∉ ([] : List Str) → PySem.W.tabIn K y = none := fun y hy hm => by
    have hy : y = ("turn" : Str) ∨ y = ("least_lead_that" : Str) := by simpa [lamNames] using hy
    rcases hy with rfl | rfl
    · exact tabIn_no v0
    · exact tabIn_no v1

  exact ⟨_, fun s v => .of_eq rfl, tabW_of rfl (tabIn_no v0) (tabIn_no v1) (fun p z => by cases z) (fun p z => by cases z) (fun p q z w => by first | cases z; done | cases w; done) kl, hno, fun base TK => fn_G (f := qd45) FF chk45 hb hc (prog_ok rfl hd hb hc TK 11)⟩
end
end Lk08
open PySem PySem.W PyProof.Rows
set_option maxRecDepth 100000 in
set_option maxHeartbeats 0 in
theorem PySem.Challenge.cw_flutterheld_k08_polygons_of_corners_holds : PySem.Challenge.rw_flutterheld_k08_polygons_of_corners.Holds := by
  w_on; o_law; k_head; (case hw => w_witness2)
  k_fill
  refine PF.walk_P (l := PySem.Challenge.rw_flutterheld_k08_polygons_of_corners) (m := 63) (n := 34) (x := "_law_script") (g := PF.runP Lk08.cons Lk08.FU Lk08.defs 12 45) [] (fun y hy => nomatch hy) rfl (by decide) rfl ⟨rfl, by decide, by decide⟩ (fun w h Y => PySem.W.kIn_of Y) ?F Lk08.law_run
  case F =>
    intro w mg fa h KX G hmg
    refine' Lk08.all_mk KX G hmg ?a0 ?l0 ?c0 ?k0 ?a1 ?l1 ?c1 ?k1 ?a2 ?l2 ?c2 ?k2 ?a3 ?l3 ?c3 ?k3 ?a4 ?l4 ?c4 ?k4 ?a5 ?l5 ?c5 ?k5 ?a6 ?l6 ?c6 ?k6 ?a7 ?l7 ?c7 ?k7 ?a8 ?l8 ?c8 ?k8 ?a9 ?l9 ?c9 ?k9 ?a10 ?l10 ?c10 ?k10 ?a11 ?l11 ?c11 ?k11 ?a12 ?l12 ?c12 ?k12 ?a13 ?l13 ?c13 ?k13 ?a14 ?l14 ?c14 ?k14 ?a15 ?l15 ?c15 ?k15 ?a16 ?l16 ?c16 ?k16 ?a17 ?l17 ?c17 ?k17 ?a18 ?l18 ?c18 ?k18 ?a19 ?l19 ?c19 ?k19 ?a20 ?l20 ?c20 ?k20 ?a21 ?l21 ?c21 ?k21 ?a22 ?l22 ?c22 ?k22 ?a23 ?l23 ?c23 ?k23 ?a24 ?l24 ?c24 ?k24 ?a25 ?l25 ?c25 ?k25 ?a26 ?l26 ?c26 ?k26 ?a27 ?l27 ?c27 ?k27 ?a28 ?l28 ?c28 ?k28 ?a29 ?l29 ?c29 ?k29 ?a30 ?l30 ?c30 ?k30 ?a31 ?l31 ?c31 ?k31 ?a32 ?l32 ?c32 ?k32 ?a33 ?l33 ?c33 ?k33 ?a34 ?l34 ?c34 ?k34 ?a35 ?l35 ?c35 ?k35 ?a36 ?l36 ?c36 ?k36 ?a37 ?l37 ?c37 ?k37 ?a38 ?l38 ?c38 ?k38 ?a39 ?l39 ?c39 ?k39 ?a40 ?l40 ?c40 ?k40 ?a41 ?l41 ?c41 ?k41 ?a42 ?l42 ?c42 ?k42 ?a43 ?l43 ?c43 ?k43 ?a44 ?l44 ?c44 ?k44 ?a45 ?l45 ?c45 ?k45 ?z0 ?z1 ?z2 ?z3 ?z4 ?z5 ?z6 ?z7 ?z8 ?z9 ?z10 ?z11 ?z12 ?z13 ?z14 ?z15 ?z16 ?z17 ?z18 ?z19 ?z20 ?v0 ?v1 ?kl
    (case a0 => k_is); (case l0 => k_is); (case c0 => k_is); (case k0 => k_is); (case a1 => k_is); (case l1 => k_is)
    (case c1 => k_is); (case k1 => k_is); (case a2 => k_is); (case l2 => k_is); (case c2 => k_is); (case k2 => k_is)
    (case a3 => k_is); (case l3 => k_is); (case c3 => k_is); (case k3 => k_is); (case a4 => k_is); (case l4 => k_is)
    (case c4 => k_is); (case k4 => k_is); (case a5 => k_is); (case l5 => k_is); (case c5 => k_is); (case k5 => k_is)
    (case a6 => k_is); (case l6 => k_is); (case c6 => k_is); (case k6 => k_is); (case a7 => k_is); (case l7 => k_is)
    (case c7 => k_is); (case k7 => k_is); (case a8 => k_is); (case l8 => k_is); (case c8 => k_is); (case k8 => k_is)
    (case a9 => k_is); (case l9 => k_is); (case c9 => k_is); (case k9 => k_is); (case a10 => k_is); (case l10 => k_is)
    (case c10 => k_is); (case k10 => k_is); (case a11 => k_is); (case l11 => k_is); (case c11 => k_is); (case k11 => k_is)
    (case a12 => k_is); (case l12 => k_is); (case c12 => k_is); (case k12 => k_is); (case a13 => k_is); (case l13 => k_is)
    (case c13 => k_is); (case k13 => k_is); (case a14 => k_is); (case l14 => k_is); (case c14 => k_is); (case k14 => k_is)
    (case a15 => k_is); (case l15 => k_is); (case c15 => k_is); (case k15 => k_is); (case a16 => k_is); (case l16 => k_is)
    (case c16 => k_is); (case k16 => k_is); (case a17 => k_is); (case l17 => k_is); (case c17 => k_is); (case k17 => k_is)
    (case a18 => k_is); (case l18 => k_is); (case c18 => k_is); (case k18 => k_is); (case a19 => k_is); (case l19 => k_is)
    (case c19 => k_is); (case k19 => k_is); (case a20 => k_is); (case l20 => k_is); (case c20 => k_is); (case k20 => k_is)
    (case a21 => k_is); (case l21 => k_is); (case c21 => k_is); (case k21 => k_is); (case a22 => k_is); (case l22 => k_is)
    (case c22 => k_is); (case k22 => k_is); (case a23 => k_is); (case l23 => k_is); (case c23 => k_is); (case k23 => k_is)
    (case a24 => k_is); (case l24 => k_is); (case c24 => k_is); (case k24 => k_is); (case a25 => k_is); (case l25 => k_is)
    (case c25 => k_is); (case k25 => k_is); (case a26 => k_is); (case l26 => k_is); (case c26 => k_is); (case k26 => k_is)
    (case a27 => k_is); (case l27 => k_is); (case c27 => k_is); (case k27 => k_is); (case a28 => k_is); (case l28 => k_is)
    (case c28 => k_is); (case k28 => k_is); (case a29 => k_is); (case l29 => k_is); (case c29 => k_is); (case k29 => k_is)
    (case a30 => k_is); (case l30 => k_is); (case c30 => k_is); (case k30 => k_is); (case a31 => k_is); (case l31 => k_is)
    (case c31 => k_is); (case k31 => k_is); (case a32 => k_is); (case l32 => k_is); (case c32 => k_is); (case k32 => k_is)
    (case a33 => k_is); (case l33 => k_is); (case c33 => k_is); (case k33 => k_is); (case a34 => k_is); (case l34 => k_is)
    (case c34 => k_is); (case k34 => k_is); (case a35 => k_is); (case l35 => k_is); (case c35 => k_is); (case k35 => k_is)
    (case a36 => k_is); (case l36 => k_is); (case c36 => k_is); (case k36 => k_is); (case a37 => k_is); (case l37 => k_is)
    (case c37 => k_is); (case k37 => k_is); (case a38 => k_is); (case l38 => k_is); (case c38 => k_is); (case k38 => k_is)
    (case a39 => k_is); (case l39 => k_is); (case c39 => k_is); (case k39 => k_is); (case a40 => k_is); (case l40 => k_is)
    (case c40 => k_is); (case k40 => k_is); (case a41 => k_is); (case l41 => k_is); (case c41 => k_is); (case k41 => k_is)
    (case a42 => k_is); (case l42 => k_is); (case c42 => k_is); (case k42 => k_is); (case a43 => k_is); (case l43 => k_is)
    (case c43 => k_is); (case k43 => k_is); (case a44 => k_is); (case l44 => k_is); (case c44 => k_is); (case k44 => k_is)
    (case a45 => k_is); (case l45 => k_is); (case c45 => k_is); (case k45 => k_is); (case z0 => k_is); (case z1 => k_is)
    (case z2 => k_is); (case z3 => k_is); (case z4 => k_is); (case z5 => k_is); (case z6 => k_is); (case z7 => k_is)
    (case z8 => k_is); (case z9 => k_is); (case z10 => k_is); (case z11 => k_is); (case z12 => k_is); (case z13 => k_is)
    (case z14 => k_is); (case z15 => k_is); (case z16 => k_is); (case z17 => k_is); (case z18 => k_is); (case z19 => k_is)
    (case z20 => k_is); (case v0 => k_is); (case v1 => k_is); (case kl => rfl)
