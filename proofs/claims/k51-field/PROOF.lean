import PyProof.Rows.All
import Wide.All
import OpenK.AllK
import Wide.FinOn
import HandS.ForMost
import HandS.Wide
import HandS.Style
import HandS.Flow
import HandS.Conv
import HandS.Star
import HandS.TupAny
import HandS.TupMul
import HandS.IsInst
import HandS.Deep
import HandS.Walk
import HandS.Zip
import HandS.More
import HandS.WideMore
import PySem.Challenge.RW_flutterheld_k51_the_field_of_97
set_option Elab.async false
set_option linter.all false
set_option maxRecDepth 100000
/-! PF1: a small language of the defs' bodies (IE, IS), its meaning on plain data (runE, runS), and the check that a body of the text is one of it (chkE, chkS). -/
namespace PF
open PySem PySem.Spec PyProof.Rows L2

/-- what a name holds: data that nobody changes; a list of its own; a list lent by the caller, to be changed -/
inductive Sl where
  | v (d : PyData)
  | o (ds : List PyData)
  | b (ds : List PyData)
def Sl.d : Sl → PyData
  | .v d => d
  | .o ds => .list ds
  | .b ds => .list ds
abbrev En := List (Option Sl)
/-- the value in hand, or the name that holds it -/
inductive Hd where
  | d (d : PyData)
  | s (i : Nat)
def En.at (env : En) (i : Nat) : Option Sl := (env[i]?).join
def Hd.get (env : En) : Hd → Option PyData
  | .d z => some z
  | .s j => (env.at j).map Sl.d
def getL (env : En) : List Hd → Option (List PyData)
  | [] => some []
  | h :: r => (h.get env).bind fun d => (getL env r).bind fun ds => some (d :: ds)
def getD : List Hd → Option (List PyData)
  | [] => some []
  | .d z :: r => (getD r).bind fun ds => some (z :: ds)
  | .s _ :: _ => none
/-- the arguments of a def; one list at most is lent -/
def getA (env : En) : Bool → List Hd → Option (List Sl)
  | _, [] => some []
  | k, .d z :: r => (getA env k r).bind fun ds => some (.v z :: ds)
  | false, .s i :: r => match env.at i with
    | some (.o ds) => (getA env true r).bind fun l => some (.b ds :: l)
    | some (.b ds) => (getA env true r).bind fun l => some (.b ds :: l)
    | _ => none
  | true, .s _ :: _ => none
/-- the name whose list is lent -/
def lentS : List Hd → Option Nat
  | [] => none
  | .d _ :: r => lentS r
  | .s i :: _ => some i
/-- what the def leaves in the lent list -/
def putA (env : En) (hs : List Hd) (l : List PyData) : En :=
  match lentS hs with
  | none => env
  | some i => match env.at i with
    | some (.o _) => env.set i (some (.o l))
    | some (.b _) => env.set i (some (.b l))
    | _ => env

inductive BF where
  | len | abs | int | max2 | min2 | sum | all | any | repr | tuple | list | sorted | str
  deriving DecidableEq
inductive MT where
  | append | pop | insert | extend
  deriving DecidableEq

mutual
inductive IE where
  | k (d : PyData)
  | g (x : Str)
  | x (i : Nat)
  | bin (op : Operator) (a b : IE)
  | neg (a : IE)
  | not (a : IE)
  | and (a b : IE)
  | or (a b : IE)
  | cmp (op : CmpOp) (a b : IE)
  | ch (op op' : CmpOp) (a b c : IE)
  | ife (t : IT) (a b : IE)
  | ix (a b : IE)
  | sl (a : IE) (lo hi : IO)
  | rv (a : IE)
  | tup (es : IL)
  | lst (es : IL)
  | fn (f : BF) (es : IL)
  | isi (a : IE) (t : String)
  | call (f : Nat) (es : IL)
  | lc (own : List (Str × Nat)) (g : IG) (it : II) (c : IT) (e : IE)
  | mt (m : MT) (i : Nat) (es : IL)
inductive IT where
  | yes
  | e (a : IE)
  | not (a : IT)
  | and (a b : IT)
  | or (a b : IT)
  | ife (t a b : IT)
inductive IL where
  | nil
  | cons (a : IE) (r : IL)
  | star (a : IE) (r : IL)
  | io (i : Nat) (r : IL)
inductive IO where
  | no
  | so (a : IE)
inductive II where
  | e (a : IE)
  | r1 (a : IE)
  | r2 (a b : IE)
  | zip (a b : IE)
  | enum (a : IE)
inductive IG where
  | n (i : Nat)
  | t (gs : IGs)
inductive IGs where
  | nil
  | cons (g : IG) (r : IGs)
end
mutual
inductive IS where
  | set (i : Nat) (e : IE)
  | tgt (gs : IGs) (e : IE)
  | par2 (i j : Nat) (a b : IE)
  | par3 (i j l : Nat) (a b c : IE)
  | six (i : Nat) (k e : IE)
  | aug (i : Nat) (op : Operator) (e : IE)
  | aix (i : Nat) (k : IE) (op : Operator) (e : IE)
  | ret (e : IE)
  | retx (i : Nat)
  | retn
  | ex (e : IE)
  | cond (t : IT) (a b : IB)
  | «for» (g : IG) (it : II) (b : IB)
  | wh (t : IT) (b : IB)
  | brk
  | cnt
  | pass
inductive IB where
  | nil
  | cons (s : IS) (r : IB)
end

/-! ### operations on data -/
def cutL {α : Type} (xs : List α) (lo hi : Option Int) : List α := (xs.drop (HT.sIx xs.length 0 lo)).take (HT.sIx xs.length xs.length hi - HT.sIx xs.length 0 lo)
def binD (op : Operator) (a b : PyData) : Option Sl :=
  match op, a, b with
  | .Add, .int i, .int j => some (.v (.int (i + j)))
  | .Sub, .int i, .int j => some (.v (.int (i - j)))
  | .Mult, .int i, .int j => if i.natAbs.log2 + j.natAbs.log2 < 1000000 then some (.v (.int (i * j))) else none
  | .FloorDiv, .int i, .int j => if 0 < j ∧ j.natAbs.log2 < 9000 then some (.v (.int (i / j))) else none
  | .Mod, .int i, .int j => if 0 < j then some (.v (.int (i % j))) else none
  | .Pow, .int i, .int j => if 0 ≤ j ∧ j ≤ 1000000 ∧ i.natAbs < 2 ^ 64 then some (.v (.int (i ^ j.toNat))) else none
  | .Add, .str x, .str y => if x.length + y.length ≤ sizeLine then some (.v (.str (x ++ y))) else none
  | .Add, .list xs, .list ys => if xs.length + ys.length ≤ sizeLine then some (.o (xs ++ ys)) else none
  | .Add, .tuple xs, .tuple ys => if xs.length + ys.length ≤ sizeLine then some (.v (.tuple (xs ++ ys))) else none
  | _, _, _ => none
def augD (op : Operator) (a b : PyData) : Option PyData :=
  match op, a, b with
  | .Add, .int i, .int j => some (.int (i + j))
  | .Sub, .int i, .int j => some (.int (i - j))
  | .FloorDiv, .int i, .int j => if 0 < j ∧ j.natAbs.log2 < 9000 then some (.int (i / j)) else none
  | .Add, .str x, .str y => if x.length + y.length ≤ sizeLine then some (.str (x ++ y)) else none
  | _, _, _ => none
def truD : PyData → Option Bool
  | .none => some false
  | .bool b => some b
  | .int i => some (i != 0)
  | .str x => if x.length ≤ sizeLine then some (x.length != 0) else none
  | .list xs => some (!xs.isEmpty)
  | .tuple xs => some (!xs.isEmpty)
  | .dict _ => none
def flatD : PyData → Bool
  | .none | .bool _ | .int _ | .str _ => true
  | _ => false
def intsD : List PyData → Option (List Int)
  | [] => some []
  | .int i :: r => (intsD r).bind fun l => some (i :: l)
  | _ :: _ => none
def cmpD (op : CmpOp) (a b : PyData) : Option Bool :=
  match op with
  | .Eq => if SeqAt.shaped a = true ∧ SeqAt.shaped b = true then some (PyData.eqv a b) else none
  | .NotEq => if SeqAt.shaped a = true ∧ SeqAt.shaped b = true then some (!PyData.eqv a b) else none
  | .Lt => match a, b with
    | .int i, .int j => some (decide (i < j))
    | _, _ => none
  | .LtE => match a, b with
    | .int i, .int j => some (decide (i ≤ j))
    | _, _ => none
  | .Gt => match a, b with
    | .int i, .int j => some (decide (j < i))
    | _, _ => none
  | .GtE => match a, b with
    | .int i, .int j => some (decide (j ≤ i))
    | _, _ => none
  | .Is => match b with
    | .none => some (match a with
      | .none => true
      | _ => false)
    | _ => none
  | .IsNot => match b with
    | .none => some (match a with
      | .none => false
      | _ => true)
    | _ => none
  | .In => match b with
    | .list ds => if SeqAt.shaped a = true ∧ SeqAt.shaped b = true then some (ds.any fun z => PyData.eqv z a) else none
    | _ => none
  | .NotIn => match b with
    | .list ds => if SeqAt.shaped a = true ∧ SeqAt.shaped b = true then some (!ds.any fun z => PyData.eqv z a) else none
    | _ => none
def ixD (a b : PyData) : Option PyData :=
  match a, b with
  | .list xs, .int i => atI xs i
  | .tuple xs, .int i => atI xs i
  | .str z, .int i => if z.length ≤ sizeLine then (atI z.cps.toList i).map fun c => .str ⟨#[c]⟩ else none
  | _, _ => none
def slD (a : PyData) (lo hi : Option Int) : Option Sl :=
  match a with
  | .list xs => some (.o (cutL xs lo hi))
  | .tuple xs => some (.v (.tuple (cutL xs lo hi)))
  | _ => none
def rvD (a : PyData) : Option Sl :=
  match a with
  | .list xs => some (.o xs.reverse)
  | _ => none
def fnD (f : BF) (ds : List PyData) : Option Sl :=
  match f, ds with
  | .len, [.list xs] => some (.v (.int xs.length))
  | .len, [.tuple xs] => some (.v (.int xs.length))
  | .len, [.str z] => if z.length ≤ sizeLine then some (.v (.int z.length)) else none
  | .abs, [.int i] => some (.v (.int (if i < 0 then -i else i)))
  | .int, [.int i] => some (.v (.int i))
  | .int, [.bool k] => some (.v (.int (if k then 1 else 0)))
  | .max2, [.int i, .int j] => some (.v (.int (if j > i then j else i)))
  | .min2, [.int i, .int j] => some (.v (.int (if j < i then j else i)))
  | .sum, [.list xs] => (intsD xs).bind fun ns => some (.v (.int ns.sum))
  | .repr, [d] => if PyData.showable d = true ∧ d.shown.length ≤ sizeLine ∧ d.hasDict = false ∧ PyData.depth d ≤ 60 then some (.v (.str d.shown)) else none
  | .tuple, [.list xs] => some (.v (.tuple xs))
  | .tuple, [.tuple xs] => some (.v (.tuple xs))
  | .list, [.list xs] => some (.o xs)
  | .list, [.tuple xs] => some (.o xs)
  | _, _ => none
def tyD : PyData → String
  | .none => "NoneType"
  | .bool _ => "bool"
  | .int _ => "int"
  | .str _ => "str"
  | .list _ => "list"
  | .tuple _ => "tuple"
  | .dict _ => "dict"
def isiD (d : PyData) (t : String) : Bool := decide (tyD d = t) || (decide (tyD d = "bool") && decide (t = "int"))
def mtD (m : MT) (xs ds : List PyData) : Option (PyData × List PyData) :=
  match m, ds with
  | .append, [d] => if xs.length < sizeLine then some (.none, xs ++ [d]) else none
  | .pop, [] => (xs[xs.length - 1]?).bind fun d => some (d, xs.dropLast)
  | .insert, [.int i, d] => if 0 ≤ i ∧ i ≤ xs.length ∧ xs.length < sizeLine then some (.none, xs.take i.toNat ++ d :: xs.drop i.toNat) else none
  | .extend, [.list ys] => if xs.length + ys.length ≤ sizeLine then some (.none, xs ++ ys) else none
  | _, _ => none
def rngD (lo : Int) (n : Nat) : List PyData := (List.range n).map fun (i : Nat) => .int (lo + i)
def zipD : List PyData → List PyData → List PyData
  | a :: r, b :: s => .tuple [a, b] :: zipD r s
  | _, _ => []
def enumD : Nat → List PyData → List PyData
  | _, [] => []
  | i, a :: r => .tuple [.int i, a] :: enumD (i + 1) r

/-! ### targets -/
def En.put (env : En) (i : Nat) (s : Sl) : Option En :=
  match env.at i with
  | some (.b _) => none
  | _ => some (env.set i (some s))
mutual
def runG : IG → PyData → En → Option En
  | .n i, d, env => env.put i (.v d)
  | .t gs, d, env => match d with
    | .tuple ds => runGs gs ds env
    | _ => none
def runGs : IGs → List PyData → En → Option En
  | .nil, [], env => some env
  | .cons g r, d :: ds, env => (runG g d env).bind fun env' => runGs r ds env'
  | _, _, _ => none
end

/-! ### expressions -/
abbrev RE := Option (Sl × En)
def hd (e : IE) (r : RE) (env : En) : Option (Hd × En) :=
  match e with
  | .x i => if (env.at i).isSome then some (.s i, env) else none
  | _ => r.bind fun p => some (.d p.1.d, p.2)
def useI (env : En) (i : Nat) : RE :=
  match env.at i with
  | some (.v d) => some (.v d, env)
  | some (.o ds) => some (.v (.list ds), env.set i (some (.v (.list ds))))
  | _ => none
def mutAt (env : En) (i : Nat) : Bool := match env.at i with
  | some (.o _) => true
  | some (.b _) => true
  | _ => false
def noOwn (env : En) : List (Str × Nat) → Bool
  | [] => true
  | p :: r => (match env.at p.2 with
    | some (.o _) => false
    | some (.b _) => false
    | _ => true) && noOwn env r
def wipeE (env : En) : List (Str × Nat) → En
  | [] => env
  | p :: r => (wipeE env r).set p.2 none
/-- behind a comprehension its own names are what they were -/
def backE (env0 env : En) : List (Str × Nat) → En
  | [] => env
  | p :: r => (backE env0 env r).set p.2 ((env0[p.2]?).join)
def compD (turn : PyData → En → Option (Option PyData × En)) : List PyData → En → Option (List PyData × En)
  | [], env => some ([], env)
  | d :: ds, env => (turn d env).bind fun p => (compD turn ds p.2).bind fun q => match p.1 with
    | some y => some (y :: q.1, q.2)
    | none => some q
def un1 (h : Option (Hd × En)) (f : PyData → Option Sl) : RE := h.bind fun p => (p.1.get p.2).bind fun d => (f d).bind fun r => some (r, p.2)
def tr1 (h : Option (Hd × En)) : Option (Bool × En) := h.bind fun p => (p.1.get p.2).bind fun d => (truD d).bind fun r => some (r, p.2)
abbrev Tab := Nat → List Sl → Option (Sl × List PyData)

mutual
def runE (Γ : Tab) (C : List (Str × PyData)) : IE → En → RE
  | .k d, env => some (.v d, env)
  | .g x, env => (C.lookup x).bind fun d => some (.v d, env)
  | .x i, env => useI env i
  | .bin op a b, env => (hd a (runE Γ C a env) env).bind fun p => (hd b (runE Γ C b p.2) p.2).bind fun q =>
      (p.1.get q.2).bind fun x => (q.1.get q.2).bind fun y => (binD op x y).bind fun r => some (r, q.2)
  | .neg a, env => un1 (hd a (runE Γ C a env) env) fun d => match d with
      | .int i => some (.v (.int (-i)))
      | _ => none
  | .not a, env => un1 (hd a (runE Γ C a env) env) fun d => (truD d).bind fun b => some (.v (.bool !b))
  | .and a b, env => (runE Γ C a env).bind fun p => (truD p.1.d).bind fun t => if t = true then runE Γ C b p.2 else some (.v p.1.d, p.2)
  | .or a b, env => (runE Γ C a env).bind fun p => (truD p.1.d).bind fun t => if t = true then some (.v p.1.d, p.2) else runE Γ C b p.2
  | .cmp op a b, env => (hd a (runE Γ C a env) env).bind fun p => (hd b (runE Γ C b p.2) p.2).bind fun q =>
      (p.1.get q.2).bind fun x => (q.1.get q.2).bind fun y => (cmpD op x y).bind fun r => some (.v (.bool r), q.2)
  | .ch op op' a b c, env => (hd a (runE Γ C a env) env).bind fun p => (hd b (runE Γ C b p.2) p.2).bind fun q =>
      (p.1.get q.2).bind fun x => (q.1.get q.2).bind fun y => (cmpD op x y).bind fun r => if r = true then
        (hd c (runE Γ C c q.2) q.2).bind fun w => (q.1.get w.2).bind fun y' => (w.1.get w.2).bind fun z => (cmpD op' y' z).bind fun r' => some (.v (.bool r'), w.2)
      else some (.v (.bool false), q.2)
  | .ife t a b, env => (runT Γ C t env).bind fun p => if p.1 = true then runE Γ C a p.2 else runE Γ C b p.2
  | .ix a b, env => (hd a (runE Γ C a env) env).bind fun p => (hd b (runE Γ C b p.2) p.2).bind fun q =>
      (p.1.get q.2).bind fun x => (q.1.get q.2).bind fun y => (ixD x y).bind fun r => some (.v r, q.2)
  | .sl a lo hi, env => (hd a (runE Γ C a env) env).bind fun p => (runO Γ C lo p.2).bind fun q => (runO Γ C hi q.2).bind fun w =>
      (p.1.get w.2).bind fun x => (slD x q.1 w.1).bind fun r => some (r, w.2)
  | .rv a, env => un1 (hd a (runE Γ C a env) env) rvD
  | .tup es, env => (runV Γ C es env).bind fun p => (getD p.1).bind fun ds => if ds.length ≤ sizeLine then some (.v (.tuple ds), p.2) else none
  | .lst es, env => (runV Γ C es env).bind fun p => (getD p.1).bind fun ds => if ds.length ≤ sizeLine then some (.o ds, p.2) else none
  | .fn f es, env => (runL Γ C es env).bind fun p => (getL p.2 p.1).bind fun ds => (fnD f ds).bind fun r => some (r, p.2)
  | .isi a t, env => un1 (hd a (runE Γ C a env) env) fun d => some (.v (.bool (isiD d t)))
  | .call f es, env => (runV Γ C es env).bind fun p => (getA p.2 false p.1).bind fun as => (Γ f as).bind fun r => some (r.1, putA p.2 p.1 r.2)
  | .lc own g it c e, env => (runI Γ C it env).bind fun p => if noOwn p.2 own = true then
      (compD (fun d en => (runG g d en).bind fun en1 => (runT Γ C c en1).bind fun t => if t.1 = true then (runE Γ C e t.2).bind fun y => some (some y.1.d, wipeE y.2 own) else some (none, wipeE t.2 own)) p.1 (wipeE p.2 own)).bind fun q =>
        if q.1.length ≤ sizeLine then some (.o q.1, backE p.2 q.2 own) else none
      else none
  | .mt m i es, env => if mutAt env i = true then (runV Γ C es env).bind fun p => (getD p.1).bind fun ds => match p.2.at i with
      | some (.o xs) => (mtD m xs ds).bind fun r => some (.v r.1, p.2.set i (some (.o r.2)))
      | some (.b xs) => (mtD m xs ds).bind fun r => some (.v r.1, p.2.set i (some (.b r.2)))
      | _ => none
    else none
def runT (Γ : Tab) (C : List (Str × PyData)) : IT → En → Option (Bool × En)
  | .yes, env => some (true, env)
  | .e a, env => tr1 (hd a (runE Γ C a env) env)
  | .not a, env => (runT Γ C a env).bind fun p => some (!p.1, p.2)
  | .and a b, env => (runT Γ C a env).bind fun p => if p.1 = true then runT Γ C b p.2 else some (false, p.2)
  | .or a b, env => (runT Γ C a env).bind fun p => if p.1 = true then some (true, p.2) else runT Γ C b p.2
  | .ife t a b, env => (runT Γ C t env).bind fun p => if p.1 = true then runT Γ C a p.2 else runT Γ C b p.2
def runL (Γ : Tab) (C : List (Str × PyData)) : IL → En → Option (List Hd × En)
  | .nil, env => some ([], env)
  | .cons a r, env => (hd a (runE Γ C a env) env).bind fun p => (runL Γ C r p.2).bind fun q => some (p.1 :: q.1, q.2)
  | .star _ _, _ => none
  | .io _ _, _ => none
def runV (Γ : Tab) (C : List (Str × PyData)) : IL → En → Option (List Hd × En)
  | .nil, env => some ([], env)
  | .cons a r, env => (runE Γ C a env).bind fun p => (runV Γ C r p.2).bind fun q => some (.d p.1.d :: q.1, q.2)
  | .star a r, env => (runE Γ C a env).bind fun p => match p.1.d with
      | .list ds => (runV Γ C r p.2).bind fun q => some (ds.map Hd.d ++ q.1, q.2)
      | .tuple ds => (runV Γ C r p.2).bind fun q => some (ds.map Hd.d ++ q.1, q.2)
      | _ => none
  | .io i r, env => if (env.at i).isSome then (runV Γ C r env).bind fun q => some (.s i :: q.1, q.2) else none
def runO (Γ : Tab) (C : List (Str × PyData)) : IO → En → Option (Option Int × En)
  | .no, env => some (none, env)
  | .so a, env => (hd a (runE Γ C a env) env).bind fun p => (p.1.get p.2).bind fun d => match d with
      | .int i => some (some i, p.2)
      | _ => none
def runI (Γ : Tab) (C : List (Str × PyData)) : II → En → Option (List PyData × En)
  | .e a, env => (runE Γ C a env).bind fun p => match p.1.d with
      | .list ds => some (ds, p.2)
      | .tuple ds => some (ds, p.2)
      | _ => none
  | .r1 a, env => (hd a (runE Γ C a env) env).bind fun p => (p.1.get p.2).bind fun d => match d with
      | .int j => if -(2 ^ 62) ≤ j ∧ j < 2 ^ 62 then some (rngD 0 j.toNat, p.2) else none
      | _ => none
  | .r2 a b, env => (hd a (runE Γ C a env) env).bind fun p => (hd b (runE Γ C b p.2) p.2).bind fun q =>
      (p.1.get q.2).bind fun x => (q.1.get q.2).bind fun y => match x, y with
      | .int i, .int j => if -(2 ^ 62) ≤ i ∧ i < 2 ^ 62 ∧ -(2 ^ 62) ≤ j ∧ j < 2 ^ 62 then some (rngD i (j - i).toNat, q.2) else none
      | _, _ => none
  | .zip a b, env => (runE Γ C a env).bind fun p => (runE Γ C b p.2).bind fun q => match p.1.d, q.1.d with
      | .list xs, .list ys => some (zipD xs ys, q.2)
      | .tuple xs, .tuple ys => some (zipD xs ys, q.2)
      | _, _ => none
  | .enum a, env => (runE Γ C a env).bind fun p => match p.1.d with
      | .list ds => some (enumD 0 ds, p.2)
      | _ => none
end

/-! ### statements -/
/-- the list that a name may change; the same behind the change -/
def atS (env : En) (i : Nat) : Option (List PyData) := match env.at i with
  | some (.o xs) => some xs
  | some (.b xs) => some xs
  | _ => none
def setS (env : En) (i : Nat) (xs : List PyData) : Option En := match env.at i with
  | some (.o _) => some (env.set i (some (.o xs)))
  | some (.b _) => some (env.set i (some (.b xs)))
  | _ => none
inductive Fl where
  | nx (env : En)
  | bk (env : En)
  | ct (env : En)
  | rt (r : Sl) (env : En)
def forD (body : PyData → En → Option Fl) : List PyData → En → Option Fl
  | [], env => some (.nx env)
  | d :: ds, env => (body d env).bind fun f => match f with
    | .nx e => forD body ds e
    | .ct e => forD body ds e
    | .bk e => some (.nx e)
    | .rt r e => some (.rt r e)
def whileD (c : En → Option (Bool × En)) (body : En → Option Fl) : Nat → En → Option Fl
  | 0, _ => none
  | n + 1, env => (c env).bind fun p => if p.1 = true then (body p.2).bind fun f => match f with
    | .nx e => whileD c body n e
    | .ct e => whileD c body n e
    | .bk e => some (.nx e)
    | .rt r e => some (.rt r e)
    else some (.nx p.2)
mutual
def runS (Γ : Tab) (C : List (Str × PyData)) (F : Nat) : IS → En → Option Fl
  | .set i e, env => (runE Γ C e env).bind fun p => (p.2.put i p.1).bind fun env' => some (.nx env')
  | .tgt gs e, env => (runE Γ C e env).bind fun p => match p.1.d with
      | .tuple ds => (runGs gs ds p.2).bind fun env' => some (.nx env')
      | _ => none
  | .par2 i j a b, env => (runE Γ C a env).bind fun p => (runE Γ C b p.2).bind fun q => (q.2.put i (.v p.1.d)).bind fun e1 => (e1.put j (.v q.1.d)).bind fun e2 => some (.nx e2)
  | .par3 i j l a b c, env => (runE Γ C a env).bind fun p => (runE Γ C b p.2).bind fun q => (runE Γ C c q.2).bind fun w =>
      (w.2.put i (.v p.1.d)).bind fun e1 => (e1.put j (.v q.1.d)).bind fun e2 => (e2.put l (.v w.1.d)).bind fun e3 => some (.nx e3)
  | .six i k e, env => (runE Γ C e env).bind fun p => if mutAt p.2 i = true then (hd k (runE Γ C k p.2) p.2).bind fun q => (q.1.get q.2).bind fun y => match y with
      | .int z => (atS q.2 i).bind fun xs => (ixN xs.length z).bind fun j => (setS q.2 i (xs.set j p.1.d)).bind fun env' => some (.nx env')
      | _ => none
    else none
  | .aug i op e, env => (hd e (runE Γ C e env) env).bind fun p => match env.at i with
      | some (.v x) => (p.1.get p.2).bind fun y => (augD op x y).bind fun d => (p.2.put i (.v d)).bind fun env' => some (.nx env')
      | _ => none
  | .aix i k op e, env => if mutAt env i = true then (hd k (runE Γ C k env) env).bind fun p => (p.1.get p.2).bind fun y => match y with
      | .int z => (atS p.2 i).bind fun xs => (ixN xs.length z).bind fun j => (xs[j]?).bind fun old => (hd e (runE Γ C e p.2) p.2).bind fun q => (q.1.get q.2).bind fun w => (augD op old w).bind fun d =>
          (atS q.2 i).bind fun ys => (ixN ys.length z).bind fun j' => (setS q.2 i (ys.set j' d)).bind fun env' => some (.nx env')
      | _ => none
    else none
  | .ret e, env => (runE Γ C e env).bind fun p => some (.rt p.1 p.2)
  | .retx i, env => match env.at i with
      | some (.o ds) => some (.rt (.o ds) (env.set i none))
      | some (.v d) => some (.rt (.v d) env)
      | _ => none
  | .retn, env => some (.rt (.v .none) env)
  | .ex e, env => (runE Γ C e env).bind fun p => some (.nx p.2)
  | .cond t a b, env => (runT Γ C t env).bind fun p => if p.1 = true then runB Γ C F a p.2 else runB Γ C F b p.2
  | .for g it b, env => (runI Γ C it env).bind fun p => forD (fun d en => (runG g d en).bind fun en1 => runB Γ C F b en1) p.1 p.2
  | .wh t b, env => whileD (fun en => runT Γ C t en) (fun en => runB Γ C F b en) F env
  | .brk, env => some (.bk env)
  | .cnt, env => some (.ct env)
  | .pass, env => some (.nx env)
def runB (Γ : Tab) (C : List (Str × PyData)) (F : Nat) : IB → En → Option Fl
  | .nil, env => some (.nx env)
  | .cons s r, env => (runS Γ C F s env).bind fun f => match f with
    | .nx e => runB Γ C F r e
    | .bk e => some (.bk e)
    | .ct e => some (.ct e)
    | .rt x e => some (.rt x e)
end

/-! ### a def -/
structure Fn where
  name : Str
  ps : List Str
  N : List Str
  body : IB
def isB : Sl → Bool
  | .b _ => true
  | _ => false
/-- what stands in the lent slot behind the run -/
def outA : List Sl → En → Option (List PyData)
  | [], _ => some []
  | .v _ :: r, env => outA r env.tail
  | .o _ :: _, _ => none
  | .b _ :: r, env => match (env.head?).join with
    | some (.b ds) => some ds
    | _ => none
def startE (n : Nat) (as : List Sl) : En := as.map some ++ List.replicate (n - as.length) none
def runFn (Γ : Tab) (C : List (Str × PyData)) (F : Nat) (f : Fn) (as : List Sl) : Option (Sl × List PyData) :=
  if as.length = f.ps.length then (runB Γ C F f.body (startE f.N.length as)).bind fun fl => match fl with
    | .nx env => (outA as env).bind fun l => some (.v .none, l)
    | .rt r env => (outA as env).bind fun l => some (r, l)
    | _ => none
  else none
def runP (C : List (Str × PyData)) (F : Nat) (fs : List Fn) : Nat → Tab
  | 0 => fun _ _ => none
  | n + 1 => fun f as => (fs[f]?).bind fun fn => runFn (runP C F fs n) C F fn as
end PF

/-! PF2: how the names' data stand in the abstract heap (Rel), how it grows (Ext), what a result is (RV). -/
namespace PF
open PySem PySem.Spec PyProof.Rows L2
/-- a list that is read: tracked, known, or one of the module's own, plain -/
def RdL (K : PySem.W.Frag) (H : Hp) (p : Addr) (vs : List V) : Prop :=
  Rd H p (.lst vs) ∨ ∃ (its : List Value) (n : Nat), K.lookup p = some { cls := .type "list", data := .seq its.toArray n } ∧ Vals vs its ∧ vs.length ≤ sizeLine
theorem RdL.sql {K : PySem.W.Frag} {H : Hp} {p : Addr} {vs : List V} (h : RdL K H p vs) : SqL K H p vs := by
  rcases h with h | ⟨its, n, h, r, z⟩
  · exact .inl h
  · refine .inr ⟨_, its.toArray, n, h, rfl, rfl, rfl, ?_, by simpa using r⟩
    rw [List.size_toArray, ← r.length]
    exact z
mutual
/-- data as it stands in the heap -/
inductive Dq (K : PySem.W.Frag) (H : Hp) : V → PyData → Prop
  | non : Dq K H .non .none
  | bl (k : Bool) : Dq K H (.bl k) (.bool k)
  | int (n : Int) : Dq K H (.int n) (.int n)
  | str (z : Str) : Dq K H (.str z) (.str z)
  | lst {p : Addr} {vs : List V} {es : List PyData} : RdL K H p vs → DqAll K H vs es → Dq K H (.ref p) (.list es)
  | tup {p : Addr} {vs : List V} {es : List PyData} : SqT K H p vs → DqAll K H vs es → Dq K H (.ref p) (.tuple es)
inductive DqAll (K : PySem.W.Frag) (H : Hp) : List V → List PyData → Prop
  | nil : DqAll K H [] []
  | cons {x : V} {r : List V} {e : PyData} {es : List PyData} : Dq K H x e → DqAll K H r es → DqAll K H (x :: r) (e :: es)
end
section
variable {K : PySem.W.Frag}
mutual
theorem Dq.dp {H : Hp} : ∀ (d : PyData) {x : V}, Dq K H x d → Dp K H x d
  | .none, _, h => by
    cases h
    exact .non
  | .bool k, _, h => by
    cases h
    exact .bl k
  | .int n, _, h => by
    cases h
    exact .int n
  | .str z, _, h => by
    cases h
    exact .str z
  | .list ds, _, h => by
    cases h with
    | lst h1 h2 => exact .lst h1.sql (DqAll.dp ds h2)
  | .tuple ds, _, h => by
    cases h with
    | tup h1 h2 => exact .tup h1 (DqAll.dp ds h2)
  | .dict _, _, h => by cases h
theorem DqAll.dp {H : Hp} : ∀ (ds : List PyData) {xs : List V}, DqAll K H xs ds → DpAll K H xs ds
  | [], _, h => by
    cases h
    exact .nil
  | d :: ds, _, h => by
    cases h with
    | cons h1 h2 => exact .cons (Dq.dp d h1) (DqAll.dp ds h2)
end
theorem rdMono {H H' : Hp} {a : Addr} {o : HO} (e : Same H H') (h : Rd H a o) : Rd H' a o := by
  rcases h with h | ⟨u, h⟩
  · exact .inl (e _ _ h)
  · exact .inr ⟨u, e _ _ h⟩

theorem rdlMono {H H' : Hp} {a : Addr} {vs : List V} (e : Same H H') (h : RdL K H a vs) : RdL K H' a vs := h.imp_left (rdMono e)
theorem sqtMono {H H' : Hp} {a : Addr} {xs : List V} (e : Same H H') (h : SqT K H a xs) : SqT K H' a xs := by
  rcases h with (h | ⟨o, h⟩) | h
  · exact .inl (.inl (e _ _ h))
  · exact .inl (.inr ⟨o, e _ _ h⟩)
  · exact .inr h
mutual
theorem dpMono {H H' : Hp} (s : Same H H') : ∀ (d : PyData) {v : V}, Dq K H v d → Dq K H' v d
  | .none, _, h => by
    cases h
    exact .non
  | .bool b, _, h => by
    cases h
    exact .bl b
  | .int i, _, h => by
    cases h
    exact .int i
  | .str x, _, h => by
    cases h
    exact .str x
  | .list ds, _, h => by
    cases h with
    | lst h1 h2 => exact .lst (rdlMono s h1) (dpAllMono s ds h2)
  | .tuple ds, _, h => by
    cases h with
    | tup h1 h2 => exact .tup (sqtMono s h1) (dpAllMono s ds h2)
  | .dict _, _, h => by cases h
theorem dpAllMono {H H' : Hp} (s : Same H H') : ∀ (ds : List PyData) {vs : List V}, DqAll K H vs ds → DqAll K H' vs ds
  | [], _, h => by
    cases h
    exact .nil
  | d :: ds, _, h => by
    cases h with
    | cons h1 h2 => exact .cons (dpMono s d h1) (dpAllMono s ds h2)
end
theorem dpAll_len {H : Hp} : ∀ {vs : List V} {ds : List PyData}, DqAll K H vs ds → vs.length = ds.length
  | _, [], h => by
    cases h
    rfl
  | _, d :: ds, h => by
    cases h with
    | cons _ h2 => rw [List.length_cons, List.length_cons, dpAll_len h2]
theorem dpAll_get {H : Hp} : ∀ {vs : List V} {ds : List PyData} {i : Nat} {d : PyData}, DqAll K H vs ds → ds[i]? = some d → ∃ v, vs[i]? = some v ∧ Dq K H v d
  | _, [], i, d, h, e => by simp at e
  | _, x :: ds, 0, d, h, e => by
    cases h with
    | cons h1 h2 =>
      have e' : x = d := Option.some.inj e
      subst e'
      exact ⟨_, rfl, h1⟩
  | _, x :: ds, i + 1, d, h, e => by
    cases h with
    | cons h1 h2 =>
      obtain ⟨v, a, b⟩ := dpAll_get (i := i) h2 (by simpa using e)
      exact ⟨v, by simpa using a, b⟩
theorem dpAll_get' {H : Hp} {vs : List V} {ds : List PyData} {i : Nat} {v : V} (h : DqAll K H vs ds) (e : vs[i]? = some v) : ∃ d, ds[i]? = some d ∧ Dq K H v d := by
  have hl := dpAll_len h
  obtain ⟨hi, _⟩ := List.getElem?_eq_some_iff.mp e
  have hi' : i < ds.length := by omega
  obtain ⟨w, e2, q⟩ := dpAll_get h (List.getElem?_eq_getElem hi')
  rw [e] at e2
  cases e2
  exact ⟨_, List.getElem?_eq_getElem hi', q⟩
theorem dpAll_app {H : Hp} : ∀ {vs ws : List V} {ds es : List PyData}, DqAll K H vs ds → DqAll K H ws es → DqAll K H (vs ++ ws) (ds ++ es)
  | _, _, [], _, h, h' => by
    cases h
    exact h'
  | _, _, d :: ds, _, h, h' => by
    cases h with
    | cons h1 h2 => exact .cons h1 (dpAll_app h2 h')
theorem dpAll_drop {H : Hp} : ∀ {vs : List V} {ds : List PyData} (n : Nat), DqAll K H vs ds → DqAll K H (vs.drop n) (ds.drop n)
  | _, _, 0, h => h
  | _, [], n + 1, h => by
    cases h
    exact .nil
  | _, d :: ds, n + 1, h => by
    cases h with
    | cons h1 h2 => exact dpAll_drop n h2
theorem dpAll_take {H : Hp} : ∀ {vs : List V} {ds : List PyData} (n : Nat), DqAll K H vs ds → DqAll K H (vs.take n) (ds.take n)
  | _, _, 0, h => .nil
  | _, [], n + 1, h => by
    cases h
    exact .nil
  | _, d :: ds, n + 1, h => by
    cases h with
    | cons h1 h2 => exact .cons h1 (dpAll_take n h2)
theorem dpAll_rev {H : Hp} : ∀ {vs : List V} {ds : List PyData}, DqAll K H vs ds → DqAll K H vs.reverse ds.reverse
  | _, [], h => by
    cases h
    exact .nil
  | _, d :: ds, h => by
    cases h with
    | cons h1 h2 =>
      rw [List.reverse_cons, List.reverse_cons]
      exact dpAll_app (dpAll_rev h2) (.cons h1 .nil)
theorem dpAll_set {H : Hp} {v : V} {d : PyData} (q : Dq K H v d) : ∀ {vs : List V} {ds : List PyData} (i : Nat), DqAll K H vs ds → DqAll K H (vs.set i v) (ds.set i d)
  | _, [], i, h => by
    cases h
    exact .nil
  | _, x :: ds, 0, h => by
    cases h with
    | cons h1 h2 => exact .cons q h2
  | _, x :: ds, i + 1, h => by
    cases h with
    | cons h1 h2 => exact .cons h1 (dpAll_set q i h2)
theorem dpAll_dropLast {H : Hp} {vs : List V} {ds : List PyData} (h : DqAll K H vs ds) : DqAll K H vs.dropLast ds.dropLast := by
  rw [List.dropLast_eq_take, List.dropLast_eq_take, dpAll_len h]
  exact dpAll_take _ h
theorem dpAll_cut {H : Hp} {vs : List V} {ds : List PyData} (lo hi : Option Int) (h : DqAll K H vs ds) : DqAll K H (cutV vs lo hi) (cutL ds lo hi) := by
  unfold cutV cutL
  rw [dpAll_len h]
  exact dpAll_take _ (dpAll_drop _ h)

/-! ### names and heap -/
def Sl.m : Sl → Option (List PyData)
  | .v _ => none
  | .o ds => some ds
  | .b ds => some ds
theorem at_set (env : En) (i : Nat) (s : Option Sl) (j : Nat) : En.at (env.set i s) j = if i = j ∧ i < env.length then s else env.at j := by
  unfold En.at
  rw [List.getElem?_set]
  by_cases h : i = j
  · subst h
    by_cases hl : i < env.length
    · rw [if_pos rfl, if_pos hl, if_pos ⟨rfl, hl⟩]
      rfl
    · rw [if_pos rfl, if_neg hl, if_neg (fun z => hl z.2), List.getElem?_eq_none (by omega)]
  · rw [if_neg h, if_neg (fun z => h z.1)]
theorem at_lt {env : En} {i : Nat} {s : Sl} (h : env.at i = some s) : i < env.length := by
  unfold En.at at h
  cases e : env[i]? with
  | none =>
    rw [e] at h
    cases h
  | some x => exact (List.getElem?_eq_some_iff.mp e).1
theorem st_get {σ : L2.St} {i j : Nat} {x : Option V} : (σ.set i x)[j]? = if i = j then (if i < σ.length then some x else none) else σ[j]? := List.getElem?_set

/-- the entry: its heaps, which name holds which lent list -/
structure Gh where
  H0 : Hp
  F0 : Hp
  B : Nat → Addr → Prop
def Own (σ : L2.St) (env : En) (p : Addr) : Prop := ∃ i s ds, env.at i = some s ∧ s.m = some ds ∧ σ[i]? = some (some (.ref p))
structure Rel (K : PySem.W.Frag) (G : Gh) (σ : L2.St) (H F : Hp) (env : En) : Prop where
  len : env.length = σ.length
  sub : Same F H
  base : Same G.F0 F
  fro : ∀ b o, G.H0 b = some o → (∀ i, ¬ G.B i b) → H b = some o
  live : ∀ b, G.H0 b ≠ none → H b ≠ none
  new : ∀ b, F b ≠ none → G.F0 b ≠ none ∨ G.H0 b = none
  val : ∀ i d, env.at i = some (.v d) → ∃ v, σ[i]? = some (some v) ∧ Dq K F v d
  mu : ∀ i s ds, env.at i = some s → s.m = some ds → ∃ p vs, σ[i]? = some (some (.ref p)) ∧ F p = none ∧ H p = some (.lst vs) ∧ DqAll K F vs ds ∧ (isB s = false → G.H0 p = none) ∧ (isB s = true → G.B i p)
  apart : ∀ i j p, i ≠ j → (∃ s ds, env.at i = some s ∧ s.m = some ds) → (∃ s ds, env.at j = some s ∧ s.m = some ds) → σ[i]? = some (some (.ref p)) → σ[j]? = some (some (.ref p)) → False
structure Ext (σ : L2.St) (env : En) (H F H' F' : Hp) (env' : En) : Prop where
  mono : Same F F'
  keep : ∀ b o, H b = some o → ¬ Own σ env b → H' b = some o
  live : ∀ b, H b ≠ none → H' b ≠ none
  fresh : ∀ b, F' b ≠ none → F b ≠ none ∨ H b = none ∨ Own σ env b
  own : ∀ b, Own σ env' b → Own σ env b
/-- a result -/
def RV (K : PySem.W.Frag) (H H' F' : Hp) (v : V) : Sl → Prop
  | .v d => Dq K F' v d
  | .o ds => ∃ p vs, v = .ref p ∧ H p = none ∧ F' p = none ∧ H' p = some (.lst vs) ∧ DqAll K F' vs ds
  | .b _ => False
theorem Ext.refl {σ : L2.St} {env : En} {H F : Hp} : Ext σ env H F H F env :=
  ⟨Same.refl _, fun _ _ h _ => h, fun _ h => h, fun _ h => .inl h, fun _ h => h⟩
theorem Ext.trans {σ : L2.St} {env env1 env2 : En} {H F H1 F1 H2 F2 : Hp} (a : Ext σ env H F H1 F1 env1) (b : Ext σ env1 H1 F1 H2 F2 env2) : Ext σ env H F H2 F2 env2 := by
  refine ⟨a.mono.trans b.mono, fun c o h n => b.keep c o (a.keep c o h n) fun z => n (a.own c z), fun c h => b.live c (a.live c h), fun c h => ?_, fun c h => a.own c (b.own c h)⟩
  rcases b.fresh c h with z | z | z
  · exact a.fresh c z
  · refine .inr (.inl ?_)
    cases e : H c with
    | none => rfl
    | some o => exact absurd z (a.live c (by rw [e]; simp))
  · exact .inr (.inr (a.own c z))
variable {G : Gh} {σ : L2.St} {H F H' F' : Hp} {env env' : En}
theorem Rel.ownAt (R : Rel K G σ H F env) {p : Addr} (h : Own σ env p) : H p ≠ none ∧ F p = none := by
  obtain ⟨i, s, ds, e, m, g⟩ := h
  obtain ⟨q, vs, g', f, h, _⟩ := R.mu i s ds e m
  rw [g] at g'
  cases g'
  exact ⟨by rw [h]; simp, f⟩
/-- new things, nothing else changed -/
theorem Rel.grow (R : Rel K G σ H F env) (m : Same F F') (sub : Same F' H') (hh : Same H H') (fr : ∀ b, F' b ≠ none → F b ≠ none ∨ H b = none) : Rel K G σ H' F' env ∧ Ext σ env H F H' F' env := by
  have lv : ∀ b, H b ≠ none → H' b ≠ none := fun b h => by
    cases e : H b with
    | none => exact absurd e h
    | some o =>
      rw [hh b o e]
      simp
  refine ⟨⟨R.len, sub, R.base.trans m, fun b o h n => hh b o (R.fro b o h n), fun b h => lv b (R.live b h), fun b h => ?_, fun i d h => ?_, fun i s ds h hm => ?_, R.apart⟩, m, fun b o h _ => hh b o h, lv, fun b h => ?_, fun _ h => h⟩
  · rcases fr b h with z | z
    · exact R.new b z
    · refine .inr ?_
      cases e : G.H0 b with
      | none => rfl
      | some o => exact absurd z (R.live b (by rw [e]; simp))
  · obtain ⟨v, a, q⟩ := R.val i d h
    exact ⟨v, a, dpMono m d q⟩
  · obtain ⟨p, vs, a, f, hp, q, b1, b2⟩ := R.mu i s ds h hm
    refine ⟨p, vs, a, ?_, hh p _ hp, dpAllMono m ds q, b1, b2⟩
    cases e : F' p with
    | none => rfl
    | some o =>
      rcases fr p (by rw [e]; simp) with z | z
      · exact absurd f z
      · rw [hp] at z
        cases z
  · rcases fr b h with z | z
    · exact .inl z
    · exact .inr (.inl z)
theorem same_updF {p : Addr} {o : HO} (m : Same F H) (h : H p = some o) : Same (upd F p o) H := fun b u e => by
  by_cases hb : b = p
  · subst hb
    rw [upd_same] at e
    cases e
    exact h
  · rw [upd_ne hb] at e
    exact m b u e
theorem same_upd1 {p : Addr} {o : HO} (h : F p = none) : Same F (upd F p o) := fun b u e => by
  rw [upd_ne (ne_of_none e h)]
  exact e
/-- a list in hand is data from now on -/
theorem Rel.settle (R0 : Rel K G σ H F env) (R : Rel K G σ H' F' env') (E : Ext σ env H F H' F' env') {v : V} {r : Sl} (q : RV K H H' F' v r) :
    ∃ F2, Rel K G σ H' F2 env' ∧ Ext σ env H F H' F2 env' ∧ Dq K F2 v r.d := by
  cases r with
  | v d => exact ⟨F', R, E, q⟩
  | b ds => exact q.elim
  | o ds =>
    obtain ⟨p, vs, rfl, hp, fp, hp', dq⟩ := q
    have m : Same F' (upd F' p (.lst vs)) := same_upd1 fp
    have nown : ¬ Own σ env' p := fun z => (R0.ownAt (E.own p z)).1 hp
    refine ⟨upd F' p (.lst vs), ⟨R.len, same_updF R.sub hp', R.base.trans m, R.fro, R.live, fun b h => ?_, fun i d h => ?_, fun i s es h hm => ?_, R.apart⟩, ⟨E.mono.trans m, E.keep, E.live, fun b h => ?_, E.own⟩, ?_⟩
    · by_cases hb : b = p
      · subst hb
        refine .inr ?_
        cases e : G.H0 b with
        | none => rfl
        | some o => exact absurd hp (R0.live b (by rw [e]; simp))
      · rw [upd_ne hb] at h
        exact R.new b h
    · obtain ⟨w, a, z⟩ := R.val i d h
      exact ⟨w, a, dpMono m d z⟩
    · obtain ⟨p2, ws, a, f, hw, z, b1, b2⟩ := R.mu i s es h hm
      refine ⟨p2, ws, a, ?_, hw, dpAllMono m es z, b1, b2⟩
      rw [upd_ne]
      · exact f
      · rintro rfl
        exact nown ⟨i, s, es, h, hm, a⟩
    · by_cases hb : b = p
      · subst hb
        exact .inr (.inl hp)
      · rw [upd_ne hb] at h
        exact E.fresh b h
    · exact .lst (.inl (.inl upd_same)) (dpAllMono m ds dq)
/-- a name's own list is data from now on -/
theorem Rel.useO (R : Rel K G σ H F env) {i : Nat} {ds : List PyData} (h : env.at i = some (.o ds)) :
    ∃ p vs, σ[i]? = some (some (.ref p)) ∧ Rel K G σ H (upd F p (.lst vs)) (env.set i (some (.v (.list ds)))) ∧ Ext σ env H F H (upd F p (.lst vs)) (env.set i (some (.v (.list ds)))) ∧ Dq K (upd F p (.lst vs)) (.ref p) (.list ds) := by
  obtain ⟨p, vs, a, f, hp, q, b1, b2⟩ := R.mu i _ ds h rfl
  have m : Same F (upd F p (.lst vs)) := same_upd1 f
  have hl := at_lt h
  have dq : Dq K (upd F p (.lst vs)) (.ref p) (.list ds) := .lst (.inl (.inl upd_same)) (dpAllMono m ds q)
  have key : ∀ j s es, En.at (env.set i (some (.v (.list ds)))) j = some s → s.m = some es → j ≠ i ∧ env.at j = some s := fun j s es e hm => by
    rw [at_set] at e
    by_cases hj : i = j
    · rw [if_pos ⟨hj, hl⟩] at e
      cases e
      cases hm
    · rw [if_neg fun z => hj z.1] at e
      exact ⟨fun z => hj z.symm, e⟩
  refine ⟨p, vs, a, ⟨by rw [List.length_set]; exact R.len, same_updF R.sub hp, R.base.trans m, R.fro, R.live, fun b hb => ?_, fun j d e => ?_, fun j s es e hm => ?_, fun j k q2 n z1 z2 => ?_⟩, ⟨m, fun _ _ z _ => z, fun _ z => z, fun b hb => ?_, fun b z => ?_⟩, dq⟩
  · by_cases hbp : b = p
    · subst hbp
      exact .inr (b1 rfl)
    · rw [upd_ne hbp] at hb
      exact R.new b hb
  · rw [at_set] at e
    by_cases hj : i = j
    · subst hj
      rw [if_pos ⟨rfl, hl⟩] at e
      cases e
      exact ⟨_, a, dq⟩
    · rw [if_neg fun z => hj z.1] at e
      obtain ⟨v, a2, q2⟩ := R.val j d e
      exact ⟨v, a2, dpMono m d q2⟩
  · obtain ⟨nj, e'⟩ := key j s es e hm
    obtain ⟨p2, ws, a2, f2, hw, z, c1, c2⟩ := R.mu j s es e' hm
    refine ⟨p2, ws, a2, ?_, hw, dpAllMono m es z, c1, c2⟩
    rw [upd_ne]
    · exact f2
    · rintro rfl
      exact R.apart j i p2 nj ⟨s, es, e', hm⟩ ⟨_, ds, h, rfl⟩ a2 a
  · obtain ⟨s, es, e, hm⟩ := z1
    obtain ⟨s', es', e', hm'⟩ := z2
    exact R.apart j k q2 n ⟨s, es, (key j s es e hm).2, hm⟩ ⟨s', es', (key k s' es' e' hm').2, hm'⟩
  · by_cases hbp : b = p
    · subst hbp
      exact .inr (.inr ⟨i, _, ds, h, rfl, a⟩)
    · rw [upd_ne hbp] at hb
      exact .inl hb
  · obtain ⟨j, s, es, e, hm, g⟩ := z
    exact ⟨j, s, es, (key j s es e hm).2, hm, g⟩
/-- a name's own or lent list is changed -/
theorem Rel.change (R : Rel K G σ H F env) {i : Nat} {s s' : Sl} {ds ds' : List PyData} {p : Addr} {vs ws : List V} (h : env.at i = some s) (hm : s.m = some ds) (a : σ[i]? = some (some (.ref p))) (hp : H p = some (.lst vs))
    (hm' : s'.m = some ds') (hb : isB s' = isB s) (q : DqAll K F ws ds') : Rel K G σ (upd H p (.lst ws)) F (env.set i (some s')) ∧ Ext σ env H F (upd H p (.lst ws)) F (env.set i (some s')) := by
  obtain ⟨p2, vs2, a2, f, hp2, _, b1, b2⟩ := R.mu i s ds h hm
  rw [a] at a2
  cases a2
  have hl := at_lt h
  have own0 : Own σ env p := ⟨i, s, ds, h, hm, a⟩
  have key : ∀ j t es, En.at (env.set i (some s')) j = some t → t.m = some es → (j = i ∧ t = s' ∧ es = ds') ∨ (j ≠ i ∧ env.at j = some t) := fun j t es e hm2 => by
    rw [at_set] at e
    by_cases hj : i = j
    · rw [if_pos ⟨hj, hl⟩] at e
      cases e
      rw [hm'] at hm2
      cases hm2
      exact .inl ⟨hj.symm, rfl, rfl⟩
    · rw [if_neg fun z => hj z.1] at e
      exact .inr ⟨fun z => hj z.symm, e⟩
  have was : ∀ j, (∃ t es, En.at (env.set i (some s')) j = some t ∧ t.m = some es) → ∃ t es, env.at j = some t ∧ t.m = some es := fun j ⟨t, es, e, hm2⟩ => by
    rcases key j t es e hm2 with ⟨rfl, _, _⟩ | ⟨_, e'⟩
    · exact ⟨s, ds, h, hm⟩
    · exact ⟨t, es, e', hm2⟩
  refine ⟨⟨by rw [List.length_set]; exact R.len, fun b o e => ?_, R.base, fun b o e n => ?_, fun b e => ?_, R.new, fun j d e => ?_, fun j t es e hm2 => ?_, fun j k q2 n z1 z2 => R.apart j k q2 n (was j z1) (was k z2)⟩, ⟨Same.refl _, fun b o e n => ?_, fun b e => ?_, fun b e => .inl e, fun b z => ?_⟩⟩
  · rw [upd_ne (ne_of_none e f)]
    exact R.sub b o e
  · have hb2 : b ≠ p := by
      rintro rfl
      cases hs : isB s with
      | true => exact n i (b2 hs)
      | false =>
        rw [b1 hs] at e
        cases e
    rw [upd_ne hb2]
    exact R.fro b o e n
  · by_cases hbp : b = p
    · subst hbp
      rw [upd_same]
      simp
    · rw [upd_ne hbp]
      exact R.live b e
  · rw [at_set] at e
    by_cases hj : i = j
    · subst hj
      rw [if_pos ⟨rfl, hl⟩] at e
      cases e
      cases hm'
    · rw [if_neg fun z => hj z.1] at e
      exact R.val j d e
  · rcases key j t es e hm2 with ⟨rfl, rfl, rfl⟩ | ⟨nj, e'⟩
    · exact ⟨p, ws, a, f, upd_same, q, by rw [hb]; exact b1, by rw [hb]; exact b2⟩
    · obtain ⟨p3, vs3, a3, f3, hp3, q3, c1, c2⟩ := R.mu j t es e' hm2
      refine ⟨p3, vs3, a3, f3, ?_, q3, c1, c2⟩
      rw [upd_ne]
      · exact hp3
      · rintro rfl
        exact R.apart j i p3 nj ⟨t, es, e', hm2⟩ ⟨s, ds, h, hm⟩ a3 a
  · rw [upd_ne]
    · exact e
    · rintro rfl
      exact n own0
  · by_cases hbp : b = p
    · subst hbp
      rw [upd_same]
      simp
    · rw [upd_ne hbp]
      exact e
  · obtain ⟨j, t, es, e, hm2, g⟩ := z
    rcases key j t es e hm2 with ⟨rfl, rfl, rfl⟩ | ⟨nj, e'⟩
    · exact ⟨_, s, ds, h, hm, g⟩
    · exact ⟨j, t, es, e', hm2, g⟩
theorem put_inv {i : Nat} {s : Sl} (h : env.put i s = some env') : env' = env.set i (some s) ∧ ∀ ds, env.at i ≠ some (.b ds) := by
  unfold En.put at h
  split at h
  · cases h
  · rename_i hn
    exact ⟨(Option.some.inj h).symm, fun ds e => hn ds e⟩
/-- a name holds data -/
theorem Rel.setv (R : Rel K G σ H F env) {i : Nat} {d : PyData} {v : V} (h : env.put i (.v d) = some env') (q : Dq K F v d) : Rel K G (σ.set i (some v)) H F env' := by
  obtain ⟨rfl, _⟩ := put_inv h
  have key : ∀ j t es, En.at (env.set i (some (.v d))) j = some t → t.m = some es → (j = i → ¬ i < env.length) ∧ env.at j = some t := fun j t es e hm2 => by
    rw [at_set] at e
    by_cases hj : i = j ∧ i < env.length
    · rw [if_pos hj] at e
      cases e
      cases hm2
    · rw [if_neg hj] at e
      exact ⟨fun z l => hj ⟨z.symm, l⟩, e⟩
  have look : ∀ j t es, En.at (env.set i (some (.v d))) j = some t → t.m = some es → (σ.set i (some v))[j]? = σ[j]? := fun j t es e hm2 => by
    obtain ⟨n, e'⟩ := key j t es e hm2
    rw [st_get, if_neg]
    intro z
    exact n z.symm (by rw [z]; exact at_lt e')
  refine ⟨by rw [List.length_set, List.length_set]; exact R.len, R.sub, R.base, R.fro, R.live, R.new, fun j d' e => ?_, fun j t es e hm2 => ?_, fun j k q2 n z1 z2 => ?_⟩
  · rw [at_set] at e
    by_cases hj : i = j ∧ i < env.length
    · rw [if_pos hj] at e
      cases e
      refine ⟨v, ?_, q⟩
      rw [st_get, if_pos hj.1, if_pos (by rw [← R.len]; exact hj.2)]
    · rw [if_neg hj] at e
      obtain ⟨w, a, z⟩ := R.val j d' e
      refine ⟨w, ?_, z⟩
      rw [st_get, if_neg fun y => hj ⟨y, by rw [y]; exact at_lt e⟩]
      exact a
  · rw [look j t es e hm2]
    exact R.mu j t es (key j t es e hm2).2 hm2
  · obtain ⟨t1, es1, e1, m1⟩ := z1
    obtain ⟨t2, es2, e2, m2⟩ := z2
    rw [look j t1 es1 e1 m1, look k t2 es2 e2 m2]
    exact R.apart j k q2 n ⟨t1, es1, (key j t1 es1 e1 m1).2, m1⟩ ⟨t2, es2, (key k t2 es2 e2 m2).2, m2⟩
/-- a name takes a list in hand as its own -/
theorem Rel.seto (R : Rel K G σ H F env) {i : Nat} {ds : List PyData} {p : Addr} {vs : List V} (h : env.put i (.o ds) = some env') (g0 : G.H0 p = none) (f : F p = none) (hp : H p = some (.lst vs)) (q : DqAll K F vs ds)
    (no : ¬ Own σ env p) : Rel K G (σ.set i (some (.ref p))) H F env' := by
  obtain ⟨rfl, _⟩ := put_inv h
  have key : ∀ j t es, En.at (env.set i (some (.o ds))) j = some t → t.m = some es → (j = i ∧ i < env.length ∧ t = .o ds ∧ es = ds) ∨ ((j = i → ¬ i < env.length) ∧ env.at j = some t) := fun j t es e hm2 => by
    rw [at_set] at e
    by_cases hj : i = j ∧ i < env.length
    · rw [if_pos hj] at e
      cases e
      cases hm2
      exact .inl ⟨hj.1.symm, hj.2, rfl, rfl⟩
    · rw [if_neg hj] at e
      exact .inr ⟨fun z l => hj ⟨z.symm, l⟩, e⟩
  have look : ∀ j t, (j = i → ¬ i < env.length) → env.at j = some t → (σ.set i (some (V.ref p)))[j]? = σ[j]? := fun j t n e' => by
    rw [st_get, if_neg]
    intro z
    exact n z.symm (by rw [z]; exact at_lt e')
  refine ⟨by rw [List.length_set, List.length_set]; exact R.len, R.sub, R.base, R.fro, R.live, R.new, fun j d' e => ?_, fun j t es e hm2 => ?_, fun j k q2 n z1 z2 g1 g2 => ?_⟩
  · rw [at_set] at e
    by_cases hj : i = j ∧ i < env.length
    · rw [if_pos hj] at e
      cases e
    · rw [if_neg hj] at e
      obtain ⟨w, a, z⟩ := R.val j d' e
      refine ⟨w, ?_, z⟩
      rw [st_get, if_neg fun y => hj ⟨y, by rw [y]; exact at_lt e⟩]
      exact a
  · rcases key j t es e hm2 with ⟨rfl, hl, rfl, rfl⟩ | ⟨n, e'⟩
    · refine ⟨p, vs, ?_, f, hp, q, fun _ => g0, fun z => nomatch z⟩
      rw [st_get, if_pos rfl, if_pos (by rw [← R.len]; exact hl)]
    · rw [look j t n e']
      exact R.mu j t es e' hm2
  · obtain ⟨t1, es1, e1, m1⟩ := z1
    obtain ⟨t2, es2, e2, m2⟩ := z2
    rcases key j t1 es1 e1 m1 with ⟨rfl, l1, _, _⟩ | ⟨n1, e1'⟩
    · rcases key k t2 es2 e2 m2 with ⟨rfl, _, _, _⟩ | ⟨n2, e2'⟩
      · exact n rfl
      · rw [look k t2 n2 e2'] at g2
        rw [st_get, if_pos rfl, if_pos (by rw [← R.len]; exact l1)] at g1
        cases g1
        exact no ⟨k, t2, es2, e2', m2, g2⟩
    · rw [look j t1 n1 e1'] at g1
      rcases key k t2 es2 e2 m2 with ⟨rfl, l2, _, _⟩ | ⟨n2, e2'⟩
      · rw [st_get, if_pos rfl, if_pos (by rw [← R.len]; exact l2)] at g2
        cases g2
        exact no ⟨j, t1, es1, e1', m1, g1⟩
      · rw [look k t2 n2 e2'] at g2
        exact R.apart j k q2 n ⟨t1, es1, e1', m1⟩ ⟨t2, es2, e2', m2⟩ g1 g2
end
end PF

/-! PF3: the operations on data, each with its rule over the abstract heap. -/
namespace PF
open PySem PySem.Spec PyProof.Rows L2
section
variable {K : PySem.W.Frag} {H F : Hp} {x y : V} {d : PyData} {ds : List PyData} {Q : VK}
/-- an operand: data, or a name's own list as it stands -/
def Opd (K : PySem.W.Frag) (F H : Hp) (x : V) (d : PyData) : Prop := Dq K F x d ∨ ∃ p vs ds, x = .ref p ∧ d = .list ds ∧ H p = some (.lst vs) ∧ DqAll K F vs ds
/-- what is wanted of a thing just made -/
def Made (K : PySem.W.Frag) (H F : Hp) (r : Sl) (Q : VK) : Prop := ∀ v H' F', Same F F' → Same F' H' → Same H H' → (∀ b, F' b ≠ none → F b ≠ none ∨ H b = none) → RV K H H' F' v r → Q v H'
theorem Made.v (m : Made K H F (.v d) Q) (s : Same F H) (q : Dq K F x d) : Q x H := m x H F (Same.refl _) s (Same.refl _) (fun _ h => .inl h) q
theorem Made.o {p : Addr} {vs : List V} (m : Made K H F (.o ds) Q) (s : Same F H) (q : DqAll K F vs ds) (hp : H p = none) : Q (.ref p) (upd H p (.lst vs)) := by
  have fp : F p = none := s.free hp
  refine m _ _ F (Same.refl _) (fun b o e => ?_) (fun b o e => ?_) (fun _ h => .inl h) ⟨p, vs, rfl, hp, fp, upd_same, q⟩
  · rw [upd_ne (ne_of_none e fp)]
    exact s b o e
  · rw [upd_ne (ne_of_none e hp)]
    exact e
theorem Made.t {p : Addr} {vs : List V} (m : Made K H F (.v (.tuple ds)) Q) (s : Same F H) (q : DqAll K F vs ds) (hp : H p = none) : Q (.ref p) (upd H p (.tup vs)) := by
  have fp : F p = none := s.free hp
  have m1 : Same F (upd F p (.tup vs)) := same_upd1 fp
  refine m _ _ (upd F p (.tup vs)) m1 (fun b o e => ?_) (fun b o e => ?_) (fun b h => ?_) (.tup (.inl (.inl upd_same)) (dpAllMono m1 _ q))
  · by_cases hb : b = p
    · subst hb
      rw [upd_same] at e ⊢
      exact e
    · rw [upd_ne hb] at e ⊢
      exact s b o e
  · rw [upd_ne (ne_of_none e hp)]
    exact e
  · by_cases hb : b = p
    · subst hb
      exact .inr hp
    · rw [upd_ne hb] at h
      exact .inl h
theorem opd_int {i : Int} (h : Opd K F H x (.int i)) : x = .int i := by
  rcases h with h | ⟨_, _, _, _, e, _⟩
  · cases h
    rfl
  · cases e
theorem opd_bool {k : Bool} (h : Opd K F H x (.bool k)) : x = .bl k := by
  rcases h with h | ⟨_, _, _, _, e, _⟩
  · cases h
    rfl
  · cases e
theorem opd_str {z : Str} (h : Opd K F H x (.str z)) : x = .str z := by
  rcases h with h | ⟨_, _, _, _, e, _⟩
  · cases h
    rfl
  · cases e
theorem opd_none (h : Opd K F H x .none) : x = .non := by
  rcases h with h | ⟨_, _, _, _, e, _⟩
  · cases h
    rfl
  · cases e
theorem opd_list (s : Same F H) (h : Opd K F H x (.list ds)) : ∃ p vs, x = .ref p ∧ RdL K H p vs ∧ DqAll K F vs ds := by
  rcases h with h | ⟨p, vs, es, e1, e, h1, h2⟩
  · cases h with
    | lst h1 h2 => exact ⟨_, _, rfl, rdlMono s h1, h2⟩
  · cases e
    exact ⟨p, vs, e1, .inl (.inl h1), h2⟩
theorem opd_tup (s : Same F H) (h : Opd K F H x (.tuple ds)) : ∃ p vs, x = .ref p ∧ SqT K H p vs ∧ DqAll K F vs ds := by
  rcases h with h | ⟨_, _, _, _, e, _⟩
  · cases h with
    | tup h1 h2 => exact ⟨_, _, rfl, sqtMono s h1, h2⟩
  · cases e
theorem opd_dict {kvs : List (PyData × PyData)} (h : Opd K F H x (.dict kvs)) : False := by
  rcases h with h | ⟨_, _, _, _, e, _⟩
  · cases h
  · cases e
theorem opd_dq (s : Same F H) (h : Opd K F H x d) : Dq K H x d := by
  rcases h with h | ⟨p, vs, es, rfl, rfl, h1, h2⟩
  · exact dpMono s d h
  · exact .lst (.inl (.inl h1)) (dpAllMono s _ h2)
theorem opd_tru (s : Same F H) (h : Opd K F H x d) {t : Bool} (e : truD d = some t) : TruV K x H t := by
  cases d with
  | none =>
    rw [opd_none h]
    exact (Option.some.inj e).symm
  | bool b =>
    rw [opd_bool h]
    exact (Option.some.inj e).symm
  | int i =>
    rw [opd_int h]
    exact (Option.some.inj e).symm
  | str z =>
    rw [opd_str h]
    simp only [truD] at e
    split at e
    · rename_i hz
      refine ⟨hz, ?_⟩
      rw [← Option.some.inj e]
      by_cases h0 : z.length = 0
      · rw [h0]
        rfl
      · have h1 : ((z.length : Nat) : Int) ≠ 0 := by omega
        rw [bne_iff_ne.mpr h0, bne_iff_ne.mpr h1]
    · cases e
  | list ds =>
    obtain ⟨p, vs, rfl, hr, q⟩ := opd_list s h
    refine .inl ⟨vs, hr.sql, ?_⟩
    have hl := dpAll_len q
    rw [← Option.some.inj e]
    cases vs <;> cases ds <;> first | rfl | (simp at hl)
  | tuple ds =>
    obtain ⟨p, vs, rfl, hr, q⟩ := opd_tup s h
    refine .inr (.inl ⟨vs, hr, ?_⟩)
    have hl := dpAll_len q
    rw [← Option.some.inj e]
    cases vs <;> cases ds <;> first | rfl | (simp at hl)
  | dict kvs => exact (opd_dict h).elim
end
section
variable {X : Cx} {pins : List (Addr × Obj)} {σ : L2.St} {H F : Hp} {s : Shared}
theorem Inv.rdL (I : Inv X pins σ H s) {l : Addr} {xs : List V} (h : RdL X.K H l xs) : xs.length ≤ sizeLine ∧ ∃ (its : List Value) (n : Nat), Vals xs its ∧ xs.length = its.length ∧ s.heap.get? l = some { cls := .type "list", data := .seq its.toArray n } := by
  rcases h with h | ⟨its, n, h, r, z⟩
  · obtain ⟨z, its, n, r, e⟩ := h.ok I.hok
    exact ⟨z, its, n, r, r.length, e⟩
  · exact ⟨z, its, n, r, r.length, I.kIn _ _ h⟩
/-- list + list -/
def rCatR (K : PySem.W.Frag) : R2 := fun x y H Q => ∃ l b xs zs, x = .ref l ∧ y = .ref b ∧ RdL K H l xs ∧ RdL K H b zs ∧ xs.length + zs.length ≤ sizeLine ∧ ∀ p, H p = none → Q (.ref p) (upd H p (.lst (xs ++ zs)))
theorem op_catR : OpR X (binaryOp .Add) (rCatR X.K) := by
  intro pins s σ H x y v u Q I rx ry h
  obtain ⟨l, b, xs, zs, rfl, rfl, h1, h2, hz, q⟩ := h
  cases rx
  cases ry
  obtain ⟨_, its, n, r, hl, e⟩ := Inv.rdL I h1
  obtain ⟨_, its2, n2, r2, hl2, e2⟩ := Inv.rdL I h2
  refine PySem.P.add_list e e2 ?_ (by rw [List.size_toArray, List.size_toArray]; omega)
  rw [show its.toArray ++ its2.toArray = (its ++ its2).toArray by simp]
  exact ⟨.ref _, _, Inv.lnew (t' := s.toks) I (r.append r2) (by rw [List.length_append]; omega), rfl, q _ (Inv.fresh I)⟩
theorem str_len (x y : Str) : x.length + y.length ≤ sizeLine → x.length + y.length ≤ sizeLine := id
/-- an operation of two places, by what binD tells -/
def qBin (K : PySem.W.Frag) (op : Operator) : R2 := fun x y H Q => ∃ F a b r, Same F H ∧ Opd K F H x a ∧ Opd K F H y b ∧ binD op a b = some r ∧ Made K H F r Q
theorem op_bin (op : Operator) : OpR X (binaryOp op) (qBin X.K op) := by
  intro pins s σ H x y v u Q I rx ry h
  obtain ⟨F, a, b, r, sm, oa, ob, e, m⟩ := h
  unfold binD at e
  split at e
  · cases e
    cases opd_int oa
    cases opd_int ob
    exact op_add pins s σ H _ _ v u Q I rx ry ⟨_, _, rfl, rfl, m.v sm (.int _)⟩
  · cases e
    cases opd_int oa
    cases opd_int ob
    exact op_sub pins s σ H _ _ v u Q I rx ry ⟨_, _, rfl, rfl, m.v sm (.int _)⟩
  · split at e
    · rename_i hc
      cases e
      cases opd_int oa
      cases opd_int ob
      exact op_mulW pins s σ H _ _ v u Q I rx ry ⟨_, _, rfl, rfl, hc, m.v sm (.int _)⟩
    · cases e
  · split at e
    · rename_i hc
      cases e
      cases opd_int oa
      cases opd_int ob
      exact op_fdivW pins s σ H _ _ v u Q I rx ry ⟨_, _, rfl, rfl, hc, m.v sm (.int _)⟩
    · cases e
  · split at e
    · rename_i hc
      cases e
      cases opd_int oa
      cases opd_int ob
      exact op_mod pins s σ H _ _ v u Q I rx ry ⟨_, _, rfl, rfl, hc, m.v sm (.int _)⟩
    · cases e
  · split at e
    · rename_i hc
      cases e
      cases opd_int oa
      cases opd_int ob
      exact op_pow pins s σ H _ _ v u Q I rx ry ⟨_, _, rfl, rfl, hc, m.v sm (.int _)⟩
    · cases e
  · split at e
    · rename_i hc
      cases e
      cases opd_str oa
      cases opd_str ob
      exact op_add_str pins s σ H _ _ v u Q I rx ry ⟨_, _, rfl, rfl, hc, m.v sm (.str _)⟩
    · cases e
  · split at e
    · rename_i hc
      cases e
      obtain ⟨p, vs, rfl, h1, q1⟩ := opd_list sm oa
      obtain ⟨p2, ws, rfl, h2, q2⟩ := opd_list sm ob
      exact op_catR pins s σ H _ _ v u Q I rx ry ⟨_, _, _, _, rfl, rfl, h1, h2, by rw [dpAll_len q1, dpAll_len q2]; exact hc, fun p hp => m.o sm (dpAll_app q1 q2) hp⟩
    · cases e
  · split at e
    · rename_i hc
      cases e
      obtain ⟨p, vs, rfl, h1, q1⟩ := opd_tup sm oa
      obtain ⟨p2, ws, rfl, h2, q2⟩ := opd_tup sm ob
      have l1 := dpAll_len q1
      have l2 := dpAll_len q2
      refine op_catA pins s σ H _ _ v u Q I rx ry ⟨_, _, _, _, rfl, rfl, h1, h2, by rw [l1, l2]; exact hc, fun z => ?_, fun z1 z2 => ?_, fun _ _ p hp => m.t sm (dpAll_app q1 q2) hp⟩
      · rw [z] at l1
        have z0 := List.eq_nil_of_length_eq_zero l1.symm
        rw [z0, List.nil_append] at m
        rcases ob with ob | ⟨_, _, _, _, e0, _⟩
        · exact m.v sm ob
        · cases e0
      · rw [z2] at l2
        have z0 := List.eq_nil_of_length_eq_zero l2.symm
        rw [z0, List.append_nil] at m
        rcases oa with oa | ⟨_, _, _, _, e0, _⟩
        · exact m.v sm oa
        · cases e0
    · cases e
  · cases e
/-! ### comparisons -/
def qCmp (K : PySem.W.Frag) (op : CmpOp) : R2 := fun x y H Q => ∃ F a b r, Same F H ∧ Opd K F H x a ∧ Opd K F H y b ∧ cmpD op a b = some r ∧ Q (.bl r) H
theorem op_cmp (hu : X.A.units + 65 < cLine) (op : CmpOp) : OpR X (compareOp op) (qCmp X.K op) := by
  intro pins s σ H x y v u Q I rx ry h
  obtain ⟨F, a, b, r, sm, oa, ob, e, q⟩ := h
  have da := Dq.dp _ (opd_dq sm oa)
  have db := Dq.dp _ (opd_dq sm ob)
  cases op with
  | Eq =>
    unfold cmpD at e
    simp only at e
    split at e
    · rename_i hc
      cases e
      exact op_eqD (by omega) pins s σ H _ _ v u Q I rx ry ⟨_, _, da, db, hc.1, hc.2, q⟩
    · cases e
  | NotEq =>
    unfold cmpD at e
    simp only at e
    split at e
    · rename_i hc
      cases e
      exact op_neD (by omega) pins s σ H _ _ v u Q I rx ry ⟨_, _, da, db, hc.1, hc.2, q⟩
    · cases e
  | Lt =>
    unfold cmpD at e
    simp only at e
    split at e
    · cases e
      cases opd_int oa
      cases opd_int ob
      exact op_lt pins s σ H _ _ v u Q I rx ry ⟨_, _, rfl, rfl, q⟩
    · cases e
  | LtE =>
    unfold cmpD at e
    simp only at e
    split at e
    · cases e
      cases opd_int oa
      cases opd_int ob
      exact op_le pins s σ H _ _ v u Q I rx ry ⟨_, _, rfl, rfl, q⟩
    · cases e
  | Gt =>
    unfold cmpD at e
    simp only at e
    split at e
    · cases e
      cases opd_int oa
      cases opd_int ob
      exact op_gt pins s σ H _ _ v u Q I rx ry ⟨_, _, rfl, rfl, q⟩
    · cases e
  | GtE =>
    unfold cmpD at e
    simp only at e
    split at e
    · cases e
      cases opd_int oa
      cases opd_int ob
      exact op_ge pins s σ H _ _ v u Q I rx ry ⟨_, _, rfl, rfl, q⟩
    · cases e
  | Is =>
    unfold cmpD at e
    simp only at e
    split at e
    · cases opd_none ob
      cases e
      refine op_isN pins s σ H _ _ v u Q I rx ry ⟨rfl, ?_⟩
      cases a with
      | none =>
        cases opd_none oa
        exact q
      | bool _ =>
        cases opd_bool oa
        exact q
      | int _ =>
        cases opd_int oa
        exact q
      | str _ =>
        cases opd_str oa
        exact q
      | list _ =>
        obtain ⟨p, vs, rfl, _⟩ := opd_list sm oa
        exact q
      | tuple _ =>
        obtain ⟨p, vs, rfl, _⟩ := opd_tup sm oa
        exact q
      | dict _ => exact (opd_dict oa).elim
    · cases e
  | IsNot =>
    unfold cmpD at e
    simp only at e
    split at e
    · cases opd_none ob
      cases e
      refine op_notN pins s σ H _ _ v u Q I rx ry ⟨rfl, ?_⟩
      cases a with
      | none =>
        cases opd_none oa
        exact q
      | bool _ =>
        cases opd_bool oa
        exact q
      | int _ =>
        cases opd_int oa
        exact q
      | str _ =>
        cases opd_str oa
        exact q
      | list _ =>
        obtain ⟨p, vs, rfl, _⟩ := opd_list sm oa
        exact q
      | tuple _ =>
        obtain ⟨p, vs, rfl, _⟩ := opd_tup sm oa
        exact q
      | dict _ => exact (opd_dict oa).elim
    · cases e
  | In =>
    unfold cmpD at e
    simp only at e
    split at e
    · split at e
      · rename_i hc
        cases e
        exact op_inD hu pins s σ H _ _ v u Q I rx ry ⟨_, _, da, db, hc.1, hc.2, q⟩
      · cases e
    · cases e
  | NotIn =>
    unfold cmpD at e
    simp only at e
    split at e
    · split at e
      · rename_i hc
        cases e
        exact op_notInD hu pins s σ H _ _ v u Q I rx ry ⟨_, _, da, db, hc.1, hc.2, q⟩
      · cases e
    · cases e
/-! ### subscripts -/
theorem atI_len {α β : Type} {xs : List α} {ys : List β} (h : xs.length = ys.length) {i : Int} {y : β} (e : atI ys i = some y) : ∃ j, ixN xs.length i = some j ∧ ys[j]? = some y := by
  unfold atI at e
  rw [← h] at e
  cases q : ixN xs.length i with
  | none =>
    rw [q] at e
    cases e
  | some j =>
    rw [q] at e
    exact ⟨j, rfl, e⟩
theorem dpAll_at {K : PySem.W.Frag} {vs : List V} {ds : List PyData} {i : Int} {d : PyData} (q : DqAll K F vs ds) (e : atI ds i = some d) : ∃ v, atI vs i = some v ∧ Dq K F v d := by
  obtain ⟨j, e1, e2⟩ := atI_len (dpAll_len q) e
  obtain ⟨v, e3, q3⟩ := dpAll_get q e2
  refine ⟨v, ?_, q3⟩
  unfold atI
  rw [e1]
  exact e3
def qIx (K : PySem.W.Frag) : R2 := fun x y H Q => ∃ F a b r, Same F H ∧ Opd K F H x a ∧ Opd K F H y b ∧ ixD a b = some r ∧ ∀ v, Dq K F v r → Q v H
theorem ix_ok : IxR X (qIx X.K) := by
  intro value slice pins s σ H x y v u Q I rx ry h hs
  obtain ⟨F, a, b, r, sm, oa, ob, e, m⟩ := h
  unfold ixD at e
  split at e
  · cases opd_int ob
    obtain ⟨p, vs, rfl, h1, q1⟩ := opd_list sm oa
    obtain ⟨w, e1, q2⟩ := dpAll_at q1 e
    exact ix_list value slice pins s σ H _ _ v u Q I rx ry ⟨_, _, _, w, rfl, rfl, h1.sql, e1, m w q2⟩ hs
  · cases opd_int ob
    obtain ⟨p, vs, rfl, h1, q1⟩ := opd_tup sm oa
    obtain ⟨w, e1, q2⟩ := dpAll_at q1 e
    exact ix_tup value slice pins s σ H _ _ v u Q I rx ry ⟨_, _, _, w, rfl, rfl, h1, e1, m w q2⟩ hs
  · cases opd_int ob
    cases opd_str oa
    split at e
    · rename_i hz
      cases q : atI _ _ with
      | none =>
        rw [q] at e
        cases e
      | some c =>
        rw [q] at e
        cases e
        exact ix_str value slice pins s σ H _ _ v u Q I rx ry ⟨_, _, _, rfl, rfl, hz, q, m _ (.str _)⟩ hs
    · cases e
  · cases e
def qSl (K : PySem.W.Frag) : V → Option Int → Option Int → Hp → VK → Prop := fun x lo hi H Q => ∃ F a r, Same F H ∧ Opd K F H x a ∧ slD a lo hi = some r ∧ Made K H F r Q
theorem sl_ok : SlR X (qSl X.K) := by
  intro pins s σ H x v vl vu lo hi sl Q I rx hs pl pu h
  obtain ⟨F, a, r, sm, oa, e, m⟩ := h
  unfold slD at e
  split at e
  · cases e
    obtain ⟨p, vs, rfl, h1, q1⟩ := opd_list sm oa
    exact sl_list pins s σ H _ v vl vu lo hi sl Q I rx hs pl pu ⟨_, _, rfl, h1.sql, fun p hp => m.o sm (dpAll_cut lo hi q1) hp⟩
  · cases e
    obtain ⟨p, vs, rfl, h1, q1⟩ := opd_tup sm oa
    refine sl_tupA pins s σ H _ v vl vu lo hi sl Q I rx hs pl pu ⟨_, _, rfl, h1, fun z => ?_, fun _ p hp => m.t sm (dpAll_cut lo hi q1) hp⟩
    have hc : ∀ es : List PyData, vs.length = es.length → cutL es lo hi = es := fun es hl => by
      unfold cutL
      rw [← hl, z.1, z.2, List.drop_zero, Nat.sub_zero, hl]
      exact List.take_length
    rw [hc _ (dpAll_len q1)] at m
    rcases oa with oa | ⟨_, _, _, _, e0, _⟩
    · exact m.v sm oa
    · cases e0
  · cases e
end
end PF

/-! PF3b: built-in functions and methods on data. -/
namespace PF
open PySem PySem.Spec PyProof.Rows L2
def BF.val : BF → Value
  | .len => .builtin "len"
  | .abs => .builtin "abs"
  | .int => .type "int"
  | .max2 => .builtin "max"
  | .min2 => .builtin "min"
  | .sum => .builtin "sum"
  | .all => .builtin "all"
  | .any => .builtin "any"
  | .repr => .builtin "repr"
  | .tuple => .type "tuple"
  | .list => .type "list"
  | .sorted => .builtin "sorted"
  | .str => .type "str"
def BF.nm : BF → Str
  | .len => "len"
  | .abs => "abs"
  | .int => "int"
  | .max2 => "max"
  | .min2 => "min"
  | .sum => "sum"
  | .all => "all"
  | .any => "any"
  | .repr => "repr"
  | .tuple => "tuple"
  | .list => "list"
  | .sorted => "sorted"
  | .str => "str"
def MT.nm : MT → Str
  | .append => "append"
  | .pop => "pop"
  | .insert => "insert"
  | .extend => "extend"
def MT.id : MT → String
  | .append => "list.append"
  | .pop => "list.pop"
  | .insert => "list.insert"
  | .extend => "list.extend"
section
variable {K : PySem.W.Frag} {H F : Hp}
theorem opdAll_1 {xs : List V} {a : PyData} (h : Paired (Opd K F H) xs [a]) : ∃ x, xs = [x] ∧ Opd K F H x a := by
  cases h with
  | cons h1 h2 =>
    cases h2
    exact ⟨_, rfl, h1⟩
theorem opdAll_2 {xs : List V} {a b : PyData} (h : Paired (Opd K F H) xs [a, b]) : ∃ x y, xs = [x, y] ∧ Opd K F H x a ∧ Opd K F H y b := by
  cases h with
  | cons h1 h2 =>
    obtain ⟨y, rfl, h3⟩ := opdAll_1 h2
    exact ⟨_, _, rfl, h1, h3⟩
theorem ints_of : ∀ {ds : List PyData} {ns : List Int} {vs : List V}, intsD ds = some ns → DqAll K F vs ds → vs = ns.map V.int
  | [], _, _, e, q => by
    cases e
    cases q
    rfl
  | .int i :: ds, ns, _, e, q => by
    cases q with
    | cons q1 q2 =>
      unfold intsD at e
      cases e2 : intsD ds with
      | none =>
        rw [e2] at e
        cases e
      | some l =>
        rw [e2] at e
        cases e
        cases q1
        rw [ints_of e2 q2]
        rfl
  | .none :: ds, ns, _, e, q => by cases e
  | .bool _ :: ds, ns, _, e, q => by cases e
  | .str _ :: ds, ns, _, e, q => by cases e
  | .list _ :: ds, ns, _, e, q => by cases e
  | .tuple _ :: ds, ns, _, e, q => by cases e
  | .dict _ :: ds, ns, _, e, q => by cases e
end
section
variable {X : Cx}
theorem call_reprD (hg : X.A.guards = some []) (hu : X.A.units + 65 < cLine) : CallR X (.builtin "repr") (fun xs H Q => ∃ x d, xs = [x] ∧ Dp X.K H x d ∧ PyData.showable d = true ∧ d.shown.length ≤ sizeLine ∧ d.hasDict = false ∧ PyData.depth d ≤ 60 ∧ Q (.str d.shown) H) := by
  intro pins s σ H xs us Q I r h
  obtain ⟨x, d, rfl, hd, hs, hz, hh, hp, q⟩ := h
  obtain ⟨u, rfl, rx⟩ := vals1 r
  obtain ⟨as, rd⟩ := Dp.reads I d x u hd rx
  have fin : ∀ h' u' tk, (∀ b o, s.heap.get? b = some o → h'.get? b = some o) → EP X pins σ Q (.str d.shown u') { s with heap := h', toks := tk } := fun h' u' tk k => ⟨.str d.shown, H, I.kept (t' := tk) k, ⟨_, rfl⟩, q⟩
  have fin0 : ∀ u' tk, EP X pins σ Q (.str d.shown u') { s with toks := tk } := fun u' tk => ⟨.str d.shown, H, I.tok tk, ⟨_, rfl⟩, q⟩
  cases hd with
  | non =>
    cases rx
    exact PySem.P.repr_of_none (fin0 _ _)
  | bl k =>
    cases rx
    exact PySem.P.repr_of_bool (fin0 _ _)
  | int i =>
    obtain ⟨t, rfl⟩ := rx
    exact PySem.P.repr_of_int (of_decide_eq_true hs) (fin0 _ _)
  | str z =>
    obtain ⟨t, rfl⟩ := rx
    exact PySem.P.repr_of_str (fin0 _ _) hz
  | lst h1 h2 =>
    cases rx
    exact repr_of_reads' rd hs (fun z => by rw [hh] at z; cases z) hg (by omega) (fun _ _ e => e) (fun h' u' tk k => fin h' u' tk k) hz
  | tup h1 h2 =>
    cases rx
    exact repr_of_reads' rd hs (fun z => by rw [hh] at z; cases z) hg (by omega) (fun _ _ e => e) (fun h' u' tk k => fin h' u' tk k) hz
def qFn (K : PySem.W.Frag) (f : BF) : List V → Hp → VK → Prop := fun xs H Q => ∃ F ds r, Same F H ∧ Paired (Opd K F H) xs ds ∧ fnD f ds = some r ∧ Made K H F r Q
theorem fn_ok (hc : X.calm = true) (hg : X.A.guards = some []) (hu : X.A.units + 65 < cLine) (f : BF) : CallR X f.val (qFn X.K f) := by
  intro pins s σ H xs us Q I r h
  obtain ⟨F, ds, res, sm, oa, e, m⟩ := h
  unfold fnD at e
  split at e
  · cases e
    obtain ⟨x, rfl, o⟩ := opdAll_1 oa
    obtain ⟨p, vs, rfl, h1, q1⟩ := opd_list sm o
    refine call_len_seq pins s σ H _ us Q I r ⟨_, _, rfl, .inl h1.sql, ?_⟩
    rw [dpAll_len q1]
    exact m.v sm (.int _)
  · cases e
    obtain ⟨x, rfl, o⟩ := opdAll_1 oa
    obtain ⟨p, vs, rfl, h1, q1⟩ := opd_tup sm o
    refine call_len_seq pins s σ H _ us Q I r ⟨_, _, rfl, .inr h1, ?_⟩
    rw [dpAll_len q1]
    exact m.v sm (.int _)
  · split at e
    · rename_i hz
      cases e
      obtain ⟨x, rfl, o⟩ := opdAll_1 oa
      cases opd_str o
      exact call_len_str pins s σ H _ us Q I r ⟨_, rfl, hz, m.v sm (.int _)⟩
    · cases e
  · cases e
    obtain ⟨x, rfl, o⟩ := opdAll_1 oa
    cases opd_int o
    exact call_abs pins s σ H _ us Q I r ⟨_, rfl, m.v sm (.int _)⟩
  · cases e
    obtain ⟨x, rfl, o⟩ := opdAll_1 oa
    cases opd_int o
    exact call_int1 pins s σ H _ us Q I r (.inl ⟨_, rfl, m.v sm (.int _)⟩)
  · cases e
    obtain ⟨x, rfl, o⟩ := opdAll_1 oa
    cases opd_bool o
    exact call_int1 pins s σ H _ us Q I r (.inr ⟨_, rfl, m.v sm (.int _)⟩)
  · cases e
    obtain ⟨x, y, rfl, o, o2⟩ := opdAll_2 oa
    cases opd_int o
    cases opd_int o2
    exact call_max2 hc pins s σ H _ us Q I r ⟨_, _, rfl, m.v sm (.int _)⟩
  · cases e
    obtain ⟨x, y, rfl, o, o2⟩ := opdAll_2 oa
    cases opd_int o
    cases opd_int o2
    exact call_min2 hc pins s σ H _ us Q I r ⟨_, _, rfl, m.v sm (.int _)⟩
  · cases e2 : intsD _ with
    | none =>
      rw [e2] at e
      cases e
    | some ns =>
      rw [e2] at e
      cases e
      obtain ⟨x, rfl, o⟩ := opdAll_1 oa
      obtain ⟨p, vs, rfl, h1, q1⟩ := opd_list sm o
      have hv := ints_of e2 q1
      subst hv
      exact cr_sum hc pins s σ H _ us Q I r ⟨_, _, rfl, h1.sql, m.v sm (.int _)⟩
  · split at e
    · rename_i hz
      cases e
      obtain ⟨x, rfl, o⟩ := opdAll_1 oa
      exact call_reprD hg hu pins s σ H _ us Q I r ⟨_, _, rfl, Dq.dp _ (opd_dq sm o), hz.1, hz.2.1, hz.2.2.1, hz.2.2.2, m.v sm (.str _)⟩
    · cases e
  · cases e
    obtain ⟨x, rfl, o⟩ := opdAll_1 oa
    obtain ⟨p, vs, rfl, h1, q1⟩ := opd_list sm o
    exact call_tuple_of pins s σ H _ us Q I r ⟨_, _, rfl, .inl ⟨h1.sql, fun l hl => m.t sm q1 hl⟩⟩
  · cases e
    obtain ⟨x, rfl, o⟩ := opdAll_1 oa
    have o' := o
    obtain ⟨p, vs, rfl, h1, q1⟩ := opd_tup sm o
    refine call_tuple_of pins s σ H _ us Q I r ⟨_, _, rfl, .inr ⟨h1, ?_⟩⟩
    rcases o' with o' | ⟨_, _, _, _, e0, _⟩
    · exact m.v sm o'
    · cases e0
  · cases e
    obtain ⟨x, rfl, o⟩ := opdAll_1 oa
    obtain ⟨p, vs, rfl, h1, q1⟩ := opd_list sm o
    exact call_list_of pins s σ H _ us Q I r ⟨_, _, rfl, .inl h1.sql, fun l hl => m.o sm q1 hl⟩
  · cases e
    obtain ⟨x, rfl, o⟩ := opdAll_1 oa
    obtain ⟨p, vs, rfl, h1, q1⟩ := opd_tup sm o
    exact call_list_of pins s σ H _ us Q I r ⟨_, _, rfl, .inr h1, fun l hl => m.o sm q1 hl⟩
  · cases e
/-- a method that changes a name's own list -/
theorem mt_ok {m : MT} {K : PySem.W.Frag} {pins : List (Addr × Obj)} {s : Shared} {σ : L2.St} {H F : Hp} {p : Addr} {vs ws : List V} {xs ds ys : List PyData} {d : PyData} {v : Value} {us : List Value} {Q : VK} (hK : X.K = K) (I : Inv X pins σ H s) (rx : RelV (.ref p) v) (r : Vals ws us)
    (hp : H p = some (.lst vs)) (q : DqAll K F vs xs) (qa : DqAll K F ws ds) (e : mtD m xs ds = some (d, ys)) (sm : Same F H) (h : ∀ w vs', Dq K F w d → DqAll K F vs' ys → Q w (upd H p (.lst vs'))) : wpAny (model X.prog X.w) X.A (call (.builtin m.id) (v :: us)) (EP X pins σ Q) X.xe s := by
  subst hK
  have l1 := dpAll_len q
  unfold mtD at e
  split at e
  · split at e
    · rename_i hz
      cases e
      cases qa with
      | cons a b =>
        cases b
        exact mt_append pins s σ H _ _ v us Q I rx r ⟨_, _, _, rfl, rfl, hp, by rw [l1]; exact hz, h _ _ .non (dpAll_app q (.cons a .nil))⟩
    · cases e
  · cases qa
    cases e2 : xs[xs.length - 1]? with
    | none =>
      rw [e2] at e
      cases e
    | some y =>
      rw [e2] at e
      cases e
      obtain ⟨w, hw, qw⟩ := dpAll_get q e2
      exact mt_pop pins s σ H _ _ v us Q I rx r ⟨_, _, w, rfl, rfl, hp, by rw [l1]; exact hw, h _ _ qw (dpAll_dropLast q)⟩
  · split at e
    · rename_i hz
      cases e
      cases qa with
      | cons a b =>
        cases b with
        | cons a2 b2 =>
          cases b2
          cases a
          have hl : (sizeLine : Nat) < 2 ^ 63 := line63
          refine mt_insert pins s σ H _ _ v us Q I rx r ⟨_, _, _, _, rfl, rfl, hp, by rw [l1]; exact hz.2.2, hz.1, by omega, h _ _ .non ?_⟩
          rw [List.append_assoc]
          exact dpAll_app (dpAll_take _ q) (.cons a2 (dpAll_drop _ q))
    · cases e
  · split at e
    · rename_i hz
      cases e
      cases qa with
      | cons a b =>
        cases b
        cases a with
        | lst h1 h2 =>
          cases rx
          obtain ⟨u, rfl, ru⟩ := vals1 r
          cases ru
          obtain ⟨z, its, n, rr, hl, e1⟩ := Inv.lstM I hp
          obtain ⟨z2, its2, n2, r2, hl2, e2⟩ := Inv.rdL I (rdlMono sm h1)
          have l2 := dpAll_len h2
          have hsz : its.toArray.size + its2.toArray.size ≤ sizeLine := by rw [List.size_toArray, List.size_toArray]; omega
          have hlong : ¬ (!its.toArray.isEmpty && Builtin.List.listTooLong (its.toArray.size + its2.toArray.size)) = true := by
            rw [notLongL hsz, Bool.and_false]
            decide
          refine call_meets PySem.F.slot_list_extend ⟨_, e1, rfl⟩ PySem.F.entry_list_extend (PySem.F.args_list_extend_2 _ _)
            (AutoSeq1.list_extend_list_list_0 p its.toArray n _ its2.toArray n2 hlong (by rw [List.size_toArray]; omega) (by omega)) ⟨e1, e2, ?_⟩
          exact ⟨.non, _, Inv.lset I (its' := its ++ its2) hp e1 (by simp) (rr.append r2) (by rw [List.length_append]; omega), rfl, h _ _ .non (dpAll_app q h2)⟩
    · cases e
  · cases e
end
end PF

/-! PF4: the check that a tree of the text is one of the small language's, and that the text does what the small language means: expressions. -/
namespace PF
open PySem PySem.Spec PyProof.Rows L2

/-! ### the check -/
structure Cfg where
  N : List Str
  fns : List Str
  cons : List (Str × PyData)
structure Sc where
  sc : Scope
  fb : Str → Bool
def visS (S : Sc) (x : Str) : Bool := match S.sc.names.lookup x with
  | some .local => true
  | some .cell => true
  | some .free => true
  | _ => false
def locS (S : Sc) (x : Str) : Bool := match S.sc.names.lookup x with
  | some .local => true
  | some .cell => S.fb x
  | _ => false
def glS (S : Sc) (x : Str) : Bool := decide (S.sc.names.lookup x = some .globalImplicit)
def okN (x : Str) : Bool := !(x == ("__debug__" : Str)) && !(x == ("__classdict__" : Str))
def nmS (C : Cfg) (S : Sc) (i : Nat) (x : Str) : Bool := decide (C.N[i]? = some x) && visS S x && okN x
def tgS (C : Cfg) (S : Sc) (i : Nat) (x : Str) : Bool := decide (C.N[i]? = some x) && locS S x
def plainA : Expr → Bool
  | .Constant .. => true
  | .Name .. => true
  | .BinOp .. => true
  | .UnaryOp .. => true
  | .BoolOp .. => true
  | .Compare .. => true
  | .IfExp .. => true
  | .Subscript .. => true
  | .Tuple .. => true
  | .List .. => true
  | .Call .. => true
  | .ListComp .. => true
  | _ => false
/-- whose test is its value's truth -/
def tstA : Expr → Bool
  | .Constant .. => true
  | .Name .. => true
  | .BinOp .. => true
  | .Subscript .. => true
  | .Tuple .. => true
  | .List .. => true
  | .Call .. => true
  | .ListComp .. => true
  | _ => false
def constD : Const → Option PyData
  | .none => some .none
  | .bool b => some (.bool b)
  | .int i => some (.int i)
  | .str x => some (.str x)
  | _ => none
def eqFlat : PyData → PyData → Bool
  | .none, .none => true
  | .bool a, .bool b => a == b
  | .int a, .int b => decide (a = b)
  | .str a, .str b => decide (a = b)
  | _, _ => false
mutual
def slotsG : IG → List Nat
  | .n i => [i]
  | .t gs => slotsGs gs
def slotsGs : IGs → List Nat
  | .nil => []
  | .cons g r => slotsG g ++ slotsGs r
end
def notStar : Expr → Bool
  | .Starred .. => false
  | _ => true
mutual
def chkG (C : Cfg) (S : Sc) : IG → Expr → Bool
  | .n i, e => match e with
    | .Name x _ => tgS C S i x
    | _ => false
  | .t gs, e => match e with
    | .Tuple es _ _ => chkGs C S gs es
    | _ => false
def chkGs (C : Cfg) (S : Sc) : IGs → List Expr → Bool
  | .nil, es => es.isEmpty
  | .cons g r, es => match es with
    | e :: es' => chkG C S g e && notStar e && chkGs C S r es'
    | [] => false
end
def isTupA : Expr → Bool
  | .Tuple .. => true
  | _ => false
mutual
def chkE (C : Cfg) (S : Sc) : IE → List Expr → Option BoolOp → Bool
  | .k d, l, _ => match l with
    | [.Constant c _ _] => (match constD c with
      | some d' => eqFlat d d'
      | none => false)
    | _ => false
  | .g x, l, _ => match l with
    | [.Name y _] => decide (x = y) && glS S x && okN x
    | _ => false
  | .x i, l, _ => match l with
    | [.Name y _] => nmS C S i y
    | _ => false
  | .bin op a b, l, _ => match l with
    | [.BinOp x o y _] => decide (op = o) && chkE C S a [x] none && chkE C S b [y] none
    | _ => false
  | .neg a, l, _ => match l with
    | [.UnaryOp .USub x _] => chkE C S a [x] none
    | _ => false
  | .not a, l, _ => match l with
    | [.UnaryOp .Not x _] => chkE C S a [x] none
    | _ => false
  | .and a b, l, k => match l, k with
    | [.BoolOp .And (x :: y :: r) _], _ => chkE C S a [x] none && chkE C S b (y :: r) (some .And)
    | x :: y :: r, some .And => chkE C S a [x] none && chkE C S b (y :: r) (some .And)
    | _, _ => false
  | .or a b, l, k => match l, k with
    | [.BoolOp .Or (x :: y :: r) _], _ => chkE C S a [x] none && chkE C S b (y :: r) (some .Or)
    | x :: y :: r, some .Or => chkE C S a [x] none && chkE C S b (y :: r) (some .Or)
    | _, _ => false
  | .cmp op a b, l, _ => match l with
    | [.Compare x [o] [y] _] => decide (op = o) && chkE C S a [x] none && chkE C S b [y] none
    | _ => false
  | .ch op op' a b c, l, _ => match l with
    | [.Compare x [o, o'] [y, z] _] => decide (op = o) && decide (op' = o') && chkE C S a [x] none && chkE C S b [y] none && chkE C S c [z] none
    | _ => false
  | .ife t a b, l, _ => match l with
    | [.IfExp z x y _] => chkT C S t [z] none && chkE C S a [x] none && chkE C S b [y] none
    | _ => false
  | .ix a b, l, _ => match l with
    | [.Subscript x y _] => chkE C S a [x] none && chkE C S b [y] none
    | _ => false
  | .sl a lo hi, l, _ => match l with
    | [.Subscript x (.Slice u w none _) _] => chkE C S a [x] none && chkO C S lo u && chkO C S hi w
    | _ => false
  | .rv a, l, _ => match l with
    | [.Subscript x (.Slice none none (some (.UnaryOp .USub (.Constant (.int 1) _ _) _)) _) _] => chkE C S a [x] none
    | _ => false
  | .tup es, l, _ => match l with
    | [.Tuple xs _ _] => chkL C S es xs
    | _ => false
  | .lst es, l, _ => match l with
    | [.List xs _] => chkL C S es xs
    | _ => false
  | .fn f es, l, _ => match l with
    | [.Call (.Name x _) (z :: zs) [] _] => decide (x = f.nm) && glS S x && chkL C S es (z :: zs) && (z :: zs).all plainA
    | _ => false
  | .isi a t, l, _ => match l with
    | [.Call (.Name x _) [z, .Name y _] [] _] => decide (x = "isinstance") && glS S x && chkE C S a [z] none && decide (y = Str.ofString t) && glS S y && ["int", "bool", "str", "list", "tuple", "dict"].contains t
    | _ => false
  | .call f es, l, _ => match l with
    | [.Call (.Name x _) zs [] _] => decide (C.fns[f]? = some x) && glS S x && okN x && chkL C S es zs && zs.all plainA
    | _ => false
  | .lc own g it c e, l, _ => match l with
    | [.ListComp elt [⟨tg, iter, ifs, as⟩] scope _] => decide (as = 0) && chkI C S it tg iter && blkC C.N S.sc scope own &&
        chkG C ⟨relS scope S.sc, fun x => scope.names.lookup x == some .cell⟩ g tg && (slotsG g).all (fun i => own.any fun p => decide (p.2 = i)) &&
        (match ifs with
          | [] => (match c with
            | .yes => true
            | _ => false)
          | [z] => chkT C ⟨relS scope S.sc, fun x => scope.names.lookup x == some .cell⟩ c [z] none
          | _ => false) && chkE C ⟨relS scope S.sc, fun x => scope.names.lookup x == some .cell⟩ e [elt] none
    | _ => false
  | .mt m i es, l, _ => match l with
    | [.Call (.Attribute (.Name x _) a ap) zs [] cp] => nmS C S i x && decide (a = m.nm) && (ap.endLine == cp.line) && chkL C S es zs && zs.all plainA && decide (zs.length ≤ 2)
    | _ => false
def chkT (C : Cfg) (S : Sc) : IT → List Expr → Option BoolOp → Bool
  | .yes, _, _ => false
  | .e a, l, _ => match l with
    | [z] => chkE C S a [z] none && (tstA z || (match a, z with
      | .cmp .., .Compare .. => true
      | .ch .., .Compare .. => true
      | _, _ => false))
    | _ => false
  | .not a, l, _ => match l with
    | [.UnaryOp .Not x _] => chkT C S a [x] none
    | _ => false
  | .and a b, l, k => match l, k with
    | [.BoolOp .And (x :: y :: r) _], _ => chkT C S a [x] none && chkT C S b (y :: r) (some .And)
    | x :: y :: r, some .And => chkT C S a [x] none && chkT C S b (y :: r) (some .And)
    | _, _ => false
  | .or a b, l, k => match l, k with
    | [.BoolOp .Or (x :: y :: r) _], _ => chkT C S a [x] none && chkT C S b (y :: r) (some .Or)
    | x :: y :: r, some .Or => chkT C S a [x] none && chkT C S b (y :: r) (some .Or)
    | _, _ => false
  | .ife _ _ _, _, _ => false
def chkL (C : Cfg) (S : Sc) : IL → List Expr → Bool
  | .nil, l => l.isEmpty
  | .cons a r, l => match l with
    | z :: zs => chkE C S a [z] none && chkL C S r zs
    | [] => false
  | .star a r, l => match l with
    | .Starred z _ :: zs => chkE C S a [z] none && chkL C S r zs
    | _ => false
  | .io i r, l => match l with
    | .Name x _ :: zs => nmS C S i x && chkL C S r zs
    | _ => false
def chkO (C : Cfg) (S : Sc) : IO → Option Expr → Bool
  | .no, l => l.isNone
  | .so a, l => match l with
    | some z => chkE C S a [z] none
    | none => false
def chkI (C : Cfg) (S : Sc) : II → Expr → Expr → Bool
  | .e a, _, it => chkE C S a [it] none
  | .r1 a, _, it => match it with
    | .Call (.Name x _) [z] [] _ => decide (x = "range") && glS S x && chkE C S a [z] none
    | _ => false
  | .r2 a b, _, it => match it with
    | .Call (.Name x _) [z, w] [] _ => decide (x = "range") && glS S x && chkE C S a [z] none && chkE C S b [w] none
    | _ => false
  | .zip a b, tg, it => match it with
    | .Call (.Name x _) [z, w] [] _ => isTupA tg && decide (x = "zip") && glS S x && chkE C S a [z] none && chkE C S b [w] none
    | _ => false
  | .enum a, tg, it => match it with
    | .Call (.Name x _) [z] [] _ => isTupA tg && decide (x = "enumerate") && glS S x && chkE C S a [z] none
    | _ => false
end
theorem chk_plain (C : Cfg) (S : Sc) (e : IE) (z : Expr) (h : chkE C S e [z] none = true) : plainA z = true := by
  cases z <;> first | rfl | (cases e <;> exact absurd h Bool.false_ne_true)
end PF

/-! PF5: what a def promises (FnG), the context (COk), readings of the small language's parts, lemmas for comprehensions. -/
namespace PF
open PySem PySem.Spec PyProof.Rows L2

/-! ### a def's promise -/
def LentAt (vs : List V) (as : List Sl) (p : Addr) : Prop := ∃ (i : Nat) (ds : List PyData), as[i]? = some (.b ds) ∧ vs[i]? = some (.ref p)
def ArgR (K : PySem.W.Frag) (F H : Hp) (v : V) : Sl → Prop
  | .v d => Dq K F v d
  | .b ds => ∃ p ws, v = .ref p ∧ F p = none ∧ H p = some (.lst ws) ∧ DqAll K F ws ds
  | .o _ => False
structure FPost (K : PySem.W.Frag) (vs : List V) (as : List Sl) (H F H' F' : Hp) (v : V) (r : Sl) (l : List PyData) : Prop where
  mono : Same F F'
  sub : Same F' H'
  keep : ∀ b o, H b = some o → ¬ LentAt vs as b → H' b = some o
  live : ∀ b, H b ≠ none → H' b ≠ none
  fresh : ∀ b, F' b ≠ none → F b ≠ none ∨ H b = none
  res : RV K H H' F' v r
  lent : ∀ p, LentAt vs as p → F' p = none ∧ ∃ ws, H' p = some (.lst ws) ∧ DqAll K F' ws l
abbrev DefG := List Sl → Option (Sl × List PyData)
def spF (K : PySem.W.Frag) (g : DefG) (vs : List V) (H : Hp) (Q : VK) : Prop :=
  ∃ F as r l, Same F H ∧ Paired (ArgR K F H) vs as ∧ (∀ (i j : Nat) (d e : List PyData), as[i]? = some (.b d) → as[j]? = some (.b e) → i = j) ∧ g as = some (r, l) ∧ ∀ v H' F', FPost K vs as H F H' F' v r l → Q v H'
structure FnG (P : Program) (w : World) (K : PySem.W.Frag) (mg : Str → Option Value) (base : Heap) (n : Nat) (a : Addr) (fd : FuncData) (ps : List Str) (g : DefG) : Prop where
  len : ∀ as r, g as = some r → as.length = ps.length
  run : ∀ (A : Around) (outer : List Env) (s : Shared) (H : Hp) (args : Args) (us : List Value) (vs : List V) (Q : VK), Room n A → A.guards = some [] → Env0 P w K mg base A outer s H → BindsTo s fd args (ps.zip us) → Vals vs us → spF K g vs H Q →
    codeAny (model P w) A (.call (.ref a) args) (CR CX0 outer P w H s Q E0) s
structure FnP (P : Program) (w : World) (K : PySem.W.Frag) (mg : Str → Option Value) (base : Heap) (n : Nat) (a : Addr) (g : DefG) : Prop where
  kp : PySem.W.keepIn K (.ref a) = true
  ex : ∃ fd ps, L2.Binds K fd ps [] ∧ FnG P w K mg base n a fd ps g

def blts : List Str := ["len", "abs", "int", "max", "min", "sum", "all", "any", "repr", "tuple", "list", "sorted", "str", "range", "zip", "enumerate", "isinstance", "bool", "dict"]
structure COk (X : Cx) (C : Cfg) (Γ : Tab) (n : Nat) : Prop where
  calm : X.calm = true
  N : X.N = C.N
  nd : X.N.Nodup
  room : Room n X.A
  guards : X.A.guards = some []
  blt : ∀ x ∈ blts, X.mg x = none
  cons : ∀ x d, C.cons.lookup x = some d → ∃ u v, X.mg x = some u ∧ RelV v u ∧ ∀ F, Dq X.K F v d
  fns : ∀ f x, C.fns[f]? = some x → ∃ a, X.mg x = some (.ref a) ∧ FnP X.prog X.w X.K X.mg X.base n a (Γ f)
structure SOk (X : Cx) (S : Sc) : Prop where
  sc : X.env.scope = S.sc
  fb : ∀ x, S.fb x = true → X.fn x = true
section
variable {X : Cx} {C : Cfg} {S : Sc} {Γ : Tab} {n : Nat}
theorem COk.units (h : COk X C Γ n) : X.A.units + 65 < cLine := by
  have := h.room.un
  omega
theorem vis_of (h : SOk X S) {x : Str} (e : visS S x = true) : Vis X.env.scope x := by
  unfold visS at e
  unfold Vis
  rw [h.sc]
  split at e
  · exact .inl (by assumption)
  · exact .inr (.inl (by assumption))
  · exact .inr (.inr (by assumption))
  · cases e
theorem loc_of (h : SOk X S) {x : Str} (e : locS S x = true) : L2.Loc X.env.scope x ∧ (X.fn x = true ∨ X.env.scope.names.lookup x = some .local) := by
  unfold locS at e
  unfold L2.Loc
  rw [h.sc]
  split at e
  · exact ⟨.inl (by assumption), .inr (by assumption)⟩
  · exact ⟨.inr (by assumption), .inl (h.fb _ e)⟩
  · cases e
theorem gl_of (h : SOk X S) {x : Str} (e : glS S x = true) : Gl X x := by
  show X.env.scope.names.lookup x = _
  rw [h.sc]
  exact of_decide_eq_true e
theorem okN_1 {x : Str} (e : okN x = true) : (x == ("__debug__" : Str)) = false := by
  unfold okN at e
  rw [Bool.and_eq_true] at e
  exact Bool.not_eq_true' _ ▸ e.1
theorem okN_2 {x : Str} (e : okN x = true) : (x == ("__classdict__" : Str)) = false := by
  unfold okN at e
  rw [Bool.and_eq_true] at e
  exact Bool.not_eq_true' _ ▸ e.2
theorem pe_nm (hC : COk X C Γ n) (hS : SOk X S) {i : Nat} {x : Str} {p : Pos} (e : nmS C S i x = true) : PE X (.Name x p) (tVar i) := by
  unfold nmS at e
  rw [Bool.and_eq_true, Bool.and_eq_true] at e
  exact pe_var (by rw [hC.N]; exact of_decide_eq_true e.1.1) (vis_of hS e.1.2) (okN_1 e.2) (okN_2 e.2)
theorem blt_of (hC : COk X C Γ n) {x : Str} (h : blts.contains x = true) : X.mg x = none := hC.blt x (by simpa using h)

/-! ### what a plain tree is -/
theorem plain_star {z : Expr} (h : plainA z = true) (zs : List Expr) (env : Env) : starEach (z :: zs) env = (false, eval z env) :: starEach zs env := by
  cases z <;> first | exact absurd h Bool.false_ne_true | rfl
theorem plain_marks {z : Expr} (h : plainA z = true) (op : CmpOp) : behindInMarks op z = false := by
  cases z <;> first | exact absurd h Bool.false_ne_true | rfl
theorem plain_ix {z : Expr} (h : plainA z = true) : PlainIx z := by
  cases z <;> first | exact absurd h Bool.false_ne_true | exact fun _ _ => rfl
theorem plain_folded {z : Expr} (h : plainA z = true) (env : Env) (x : Value) : foldedSetIterable z env x = pure x := by
  cases z <;> first | exact absurd h Bool.false_ne_true | rfl
theorem plain_tst {z : Expr} (h : tstA z = true) (env : Env) (whole : Sem Value) : PySem.isTrue z env whole = (do let v ← whole; standAt z.pos; holding [v] (truthy v)) := by
  cases z <;> first | exact absurd h Bool.false_ne_true | rfl
theorem plain_any : ∀ {zs : List Expr} (h : zs.all plainA = true) (pos : Pos) (env : Env), (backTo pos (starEach zs env)).any (·.1) = false
  | [], _, _, _ => rfl
  | z :: zs, h, pos, env => by
    rw [List.all_cons, Bool.and_eq_true] at h
    rw [plain_star h.1]
    show (false || (backTo pos (starEach zs env)).any (·.1)) = false
    rw [plain_any h.2 pos env]
    rfl
theorem plain_all : ∀ {zs : List Expr} (h : zs.all plainA = true) (pos : Pos) (env : Env), (backTo pos (starEach zs env)).all (fun x => !x.1) = true
  | [], _, _, _ => rfl
  | z :: zs, h, pos, env => by
    rw [List.all_cons, Bool.and_eq_true] at h
    rw [plain_star h.1]
    show (true && (backTo pos (starEach zs env)).all (fun x => !x.1)) = true
    rw [plain_all h.2 pos env]
    rfl
theorem pe_mono {e : Expr} {t t' : TE} (h : PE X e t) (f : ∀ σ H Q, t' σ H Q → t σ H Q) : PE X e t' := ⟨fun pins s σ H Q I q => h.run pins s σ H Q I (f σ H Q q)⟩
theorem pt_mono {e : Expr} {t t' : TT} (h : PT X e t) (f : ∀ σ H Q, t' σ H Q → t σ H Q) : PT X e t' := ⟨fun pins s σ H Q I q => h.run pins s σ H Q I (f σ H Q q)⟩
theorem pw_mono {e : Expr} {t t' : TT} (h : PW X e t) (f : ∀ σ H Q, t' σ H Q → t σ H Q) : PW X e t' := ⟨fun wh pins s σ H Q I q => h.run wh pins s σ H Q I (f σ H Q q)⟩
theorem pa_mono {es : List Expr} {t t' : TA} (h : PA X es t) (f : ∀ σ H Q, t' σ H Q → t σ H Q) : PA X es t' := ⟨fun pos pins s σ H Q I q => h.run pos pins s σ H Q I (f σ H Q q)⟩
theorem pg_mono {e : Expr} {t t' : TG} (h : PG X e t) (f : ∀ v σ H Q, t' v σ H Q → t v σ H Q) : PG X e t' := ⟨fun pins s σ H v u Q I r q => h.run pins s σ H v u Q I r (f v σ H Q q)⟩
theorem pgs_mono {es : List Expr} {t t' : TGs} (h : PGs X es t) (f : ∀ v σ H Q, t' v σ H Q → t v σ H Q) : PGs X es t' := ⟨fun pins s σ H v u Q I r q => h.run pins s σ H v u Q I r (f v σ H Q q)⟩
theorem ps_mono {e : Stmt} {t t' : TS} (h : PS X e t) (f : ∀ D σ H, t' D σ H → t D σ H) : PS X e t' := ⟨fun pins s σ H D I q => h.run pins s σ H D I (f D σ H q)⟩
theorem pss_mono {e : List Stmt} {t t' : TS} (h : PSs X e t) (f : ∀ D σ H, t' D σ H → t D σ H) : PSs X e t' := ⟨fun pins s σ H D I q => h.run pins s σ H D I (f D σ H q)⟩
theorem pi_mono {tg e : Expr} {t t' : TI} (h : PI X tg e t) (f : ∀ σ H R, t' σ H R → t σ H R) : PI X tg e t' := ⟨fun pins s σ H R I q => h.run pins s σ H R I (f σ H R q)⟩
theorem po_mono {e : Option Expr} {t t' : TO} (h : PO X e t) (f : ∀ σ H Q, t' σ H Q → t σ H Q) : PO X e t' := ⟨fun pins s σ H Q I q => h.run pins s σ H Q I (f σ H Q q)⟩

/-! ### the call of a def -/
theorem paired_len {α β : Type} {R : α → β → Prop} : ∀ {l : List α} {m : List β}, Paired R l m → l.length = m.length
  | _, _, .nil => rfl
  | _, _, .cons _ t => by rw [List.length_cons, List.length_cons, paired_len t]
theorem run_fnG {a : Addr} {g : DefG} {pins : List (Addr × Obj)} {σ : L2.St} {H : Hp} {s : Shared} {Q : VK} {us : List Value} {vs : List V} (F : FnP X.prog X.w X.K X.mg X.base n a g) (hr : Room n X.A) (hg : X.A.guards = some []) (I : L2.Inv X pins σ H s)
    (r : Vals vs us) (h : spF X.K g vs H Q) : wpAny (model X.prog X.w) X.A (call (.ref a) us) (EP X pins σ Q) X.xe s := by
  obtain ⟨fd, ps, hb, G⟩ := F.ex
  have hl : us.length = ps.length := by
    obtain ⟨F, as, x, l, _, h2, _, h4, _⟩ := h
    rw [← G.len as _ h4, ← paired_len h2, r.length]
  have hb' := hb s us I.kIn (by rw [List.append_nil]; exact hl)
  rw [List.append_nil] at hb'
  refine wpAny_call (codeAny_mono (G.run X.A X.stack s H ⟨us, []⟩ us vs Q hr hg I.env0 hb' r h) fun x s' hq => ?_)
  cases x with
  | error e => exact False.elim hq
  | ok fl =>
    cases fl with
    | ret u => exact I.after hq
    | next => exact False.elim hq
    | brk => exact False.elim hq
    | cont => exact False.elim hq
def tCG (K : PySem.W.Frag) (g : DefG) (t : TA) : TE := fun σ H Q => t σ H fun vs H1 => spF K g vs H1 Q
theorem pe_callG {a : Addr} {g : DefG} {x : Str} {p pos : Pos} {z : Expr} {zs : List Expr} {t : TA} (hC : COk X C Γ n) (F : FnP X.prog X.w X.K X.mg X.base n a g) (hg : Gl X x) (hm : X.mg x = some (.ref a)) (hx : okN x = true) (ha : PA X (z :: zs) t) (hp : (z :: zs).all plainA = true) :
    PE X (.Call (.Name x p) (z :: zs) [] pos) (tCG X.K g t) := by
  refine ⟨fun pins s σ H Q I h => ?_⟩
  refine wpAny_Call_Name_kw (ld_glob I hg hm ?_ (okN_1 hx))
  rw [List.all_cons, Bool.and_eq_true] at hp
  refine PySem.W.callWith_K (h₀ := X.base) I.ok.mod.kin F.kp (thn (ha.run pos pins s σ H _ I h) fun us s1 ⟨vs, H1, I1, r, q⟩ => ⟨I1.kIn, ?_⟩) (plain_star hp.1 _ _) (plain_any hp.2 _ _)
  exact run_fnG F hC.room hC.guards I1 r q
theorem pe_callG0 {a : Addr} {g : DefG} {x : Str} {p pos : Pos} (hC : COk X C Γ n) (F : FnP X.prog X.w X.K X.mg X.base n a g) (hg : Gl X x) (hm : X.mg x = some (.ref a)) (hx : okN x = true) :
    PE X (.Call (.Name x p) [] [] pos) (fun σ H Q => spF X.K g [] H Q) := by
  refine ⟨fun pins s σ H Q I h => ?_⟩
  refine wpAny_Call_Name_kw (ld_glob I hg hm ?_ (okN_1 hx))
  exact PySem.W.callWith_K0 I.kIn F.kp (run_fnG (us := []) F hC.room hC.guards I .nil h)
end
end PF

/-! PF5b: lemmas for loops and comprehensions. -/
namespace PF
open PySem PySem.Spec PyProof.Rows L2
section
variable {K : PySem.W.Frag} {G : Gh} {σ : L2.St} {H F H' F' : Hp} {env env' : En}
/-- behind a call that was lent a name's list -/
theorem Rel.lent (R : Rel K G σ H F env) {i : Nat} {s s' : Sl} {ds l : List PyData} {p : Addr} {ws : List V} (h : env.at i = some s) (hm : s.m = some ds) (a : σ[i]? = some (some (.ref p)))
    (mono : Same F F') (sub : Same F' H') (keep : ∀ b o, H b = some o → b ≠ p → H' b = some o) (fresh : ∀ b, F' b ≠ none → F b ≠ none ∨ H b = none)
    (fp : F' p = none) (hp : H' p = some (.lst ws)) (q : DqAll K F' ws l) (hm' : s'.m = some l) (hb : isB s' = isB s) :
    Rel K G σ H' F' (env.set i (some s')) ∧ Ext σ env H F H' F' (env.set i (some s')) := by
  obtain ⟨p2, vs, a2, f2, hp2, _, _, _⟩ := R.mu i s ds h hm
  rw [a] at a2
  cases a2
  have e : upd (upd H' p (.lst vs)) p (.lst ws) = H' := by
    rw [upd_upd]
    funext b
    unfold upd
    split
    · rename_i hb2
      rw [hb2]
      exact hp.symm
    · rfl
  obtain ⟨R1, E1⟩ := R.grow (F' := F') (H' := upd H' p (.lst vs)) mono (fun b o z => by
    rw [upd_ne (ne_of_none z fp)]
    exact sub b o z) (fun b o z => by
    by_cases hb2 : b = p
    · subst hb2
      rw [upd_same, ← z]
      exact hp2.symm
    · rw [upd_ne hb2]
      exact keep b o z hb2) fresh
  obtain ⟨R2, E2⟩ := R1.change (ws := ws) h hm a upd_same hm' hb q
  rw [e] at R2 E2
  exact ⟨R2, E1.trans E2⟩
/-- a list that is nobody's is changed -/
theorem Rel.poke (R : Rel K G σ H F env) {p : Addr} {o : HO} (g0 : G.H0 p = none) (f : F p = none) (no : ¬ Own σ env p) : Rel K G σ (upd H p o) F env := by
  refine ⟨R.len, fun b u e => ?_, R.base, fun b u e n => ?_, fun b e => ?_, R.new, R.val, fun i s ds h hm => ?_, R.apart⟩
  · rw [upd_ne (ne_of_none e f)]
    exact R.sub b u e
  · rw [upd_ne (ne_of_none e g0)]
    exact R.fro b u e n
  · by_cases hb : b = p
    · subst hb
      rw [upd_same]
      simp
    · rw [upd_ne hb]
      exact R.live b e
  · obtain ⟨p2, vs, a, f2, hp, q, b1, b2⟩ := R.mu i s ds h hm
    refine ⟨p2, vs, a, f2, ?_, q, b1, b2⟩
    rw [upd_ne]
    · exact hp
    · rintro rfl
      exact no ⟨i, s, ds, h, hm, a⟩
/-! ### a comprehension's own names -/
def ixs (own : List (Str × Nat)) : List Nat := own.map (·.2)
theorem wipeE_len (env : En) : ∀ own : List (Str × Nat), (wipeE env own).length = env.length
  | [] => rfl
  | p :: r => by
    unfold wipeE
    rw [List.length_set, wipeE_len env r]
theorem backE_len (e0 env : En) : ∀ own : List (Str × Nat), (backE e0 env own).length = env.length
  | [] => rfl
  | p :: r => by
    unfold backE
    rw [List.length_set, backE_len e0 env r]
theorem wipeE_at (env : En) (i : Nat) : ∀ own : List (Str × Nat), (wipeE env own).at i = if i ∈ ixs own then none else env.at i
  | [] => by simp [ixs, wipeE]
  | p :: r => by
    unfold wipeE
    rw [at_set, wipeE_at env i r, wipeE_len]
    unfold ixs
    rw [List.map_cons]
    by_cases h : p.2 = i
    · subst h
      by_cases hl : p.2 < env.length
      · rw [if_pos ⟨rfl, hl⟩, if_pos List.mem_cons_self]
      · rw [if_neg fun z => hl z.2, if_pos List.mem_cons_self]
        split
        · rfl
        · unfold En.at
          rw [List.getElem?_eq_none (by omega)]
          rfl
    · rw [if_neg fun z => h z.1]
      by_cases hm : i ∈ r.map (·.2)
      · rw [if_pos hm, if_pos (List.mem_cons_of_mem _ hm)]
      · rw [if_neg hm, if_neg]
        intro z
        rcases List.mem_cons.mp z with z | z
        · exact h z.symm
        · exact hm z
theorem backE_at (e0 env : En) (hl : e0.length = env.length) (i : Nat) : ∀ own : List (Str × Nat), (backE e0 env own).at i = if i ∈ ixs own then e0.at i else env.at i
  | [] => by simp [ixs, backE]
  | p :: r => by
    unfold backE
    rw [at_set, backE_at e0 env hl i r, backE_len]
    unfold ixs
    rw [List.map_cons]
    by_cases h : p.2 = i
    · subst h
      by_cases hl2 : p.2 < env.length
      · rw [if_pos ⟨rfl, hl2⟩, if_pos List.mem_cons_self]
        rfl
      · rw [if_neg fun z => hl2 z.2, if_pos List.mem_cons_self]
        have n1 : env.at p.2 = none := by
          unfold En.at
          rw [List.getElem?_eq_none (by omega)]
          rfl
        have n2 : e0.at p.2 = none := by
          unfold En.at
          rw [List.getElem?_eq_none (by omega)]
          rfl
        rw [n1, n2]
        split <;> rfl
    · rw [if_neg fun z => h z.1]
      by_cases hm : i ∈ r.map (·.2)
      · rw [if_pos hm, if_pos (List.mem_cons_of_mem _ hm)]
      · rw [if_neg hm, if_neg]
        intro z
        rcases List.mem_cons.mp z with z | z
        · exact h z.symm
        · exact hm z
theorem wipe_get (σ : L2.St) (i : Nat) : ∀ vs : List Nat, i ∉ vs → (wipe σ vs)[i]? = σ[i]?
  | [], _ => rfl
  | v :: vs, h => by
    unfold wipe
    rw [st_get, if_neg fun (z : v = i) => h (by rw [← z]; exact List.mem_cons_self)]
    exact wipe_get σ i vs fun z => h (List.mem_cons_of_mem _ z)
theorem wipe_in (σ : L2.St) (i : Nat) : ∀ vs : List Nat, i ∈ vs → i < σ.length → (wipe σ vs)[i]? = some none
  | v :: vs, h, hl => by
    unfold wipe
    rw [st_get, wipe_length]
    by_cases e : v = i
    · rw [if_pos e, if_pos (by omega)]
    · rw [if_neg e]
      exact wipe_in σ i vs ((List.mem_cons.mp h).resolve_left fun z => e z.symm) hl
theorem wipe_eq {σ τ : L2.St} {vs : List Nat} (hl : σ.length = τ.length) (h : ∀ i, i ∉ vs → σ[i]? = τ[i]?) : wipe σ vs = wipe τ vs := by
  apply List.ext_getElem?
  intro i
  by_cases hm : i ∈ vs
  · by_cases hi : i < σ.length
    · rw [wipe_in σ i vs hm hi, wipe_in τ i vs hm (by omega)]
    · rw [List.getElem?_eq_none (by rw [wipe_length]; omega), List.getElem?_eq_none (by rw [wipe_length]; omega)]
  · rw [wipe_get σ i vs hm, wipe_get τ i vs hm]
    exact h i hm
theorem wipe_wipe (σ : L2.St) (vs : List Nat) : wipe (wipe σ vs) vs = wipe σ vs := wipe_eq (wipe_length σ vs) fun i h => wipe_get σ i vs h
theorem Rel.wiped (R : Rel K G σ H F env) (own : List (Str × Nat)) : Rel K G (wipe σ (ixs own)) H F (wipeE env own) ∧ ∀ b, Own (wipe σ (ixs own)) (wipeE env own) b → Own σ env b := by
  have key : ∀ i s, (wipeE env own).at i = some s → i ∉ ixs own ∧ env.at i = some s := fun i s e => by
    rw [wipeE_at] at e
    by_cases hm : i ∈ ixs own
    · rw [if_pos hm] at e
      cases e
    · rw [if_neg hm] at e
      exact ⟨hm, e⟩
  refine ⟨⟨by rw [wipeE_len, wipe_length]; exact R.len, R.sub, R.base, R.fro, R.live, R.new, fun i d e => ?_, fun i s ds e hm => ?_, fun i j p n z1 z2 g1 g2 => ?_⟩, fun b z => ?_⟩
  · obtain ⟨n, e'⟩ := key i _ e
    rw [wipe_get σ i _ n]
    exact R.val i d e'
  · obtain ⟨n, e'⟩ := key i _ e
    rw [wipe_get σ i _ n]
    exact R.mu i s ds e' hm
  · obtain ⟨s, ds, e, hm⟩ := z1
    obtain ⟨s', ds', e', hm'⟩ := z2
    obtain ⟨n1, k1⟩ := key i s e
    obtain ⟨n2, k2⟩ := key j s' e'
    rw [wipe_get σ i _ n1] at g1
    rw [wipe_get σ j _ n2] at g2
    exact R.apart i j p n ⟨s, ds, k1, hm⟩ ⟨s', ds', k2, hm'⟩ g1 g2
  · obtain ⟨i, s, ds, e, hm, g⟩ := z
    obtain ⟨n, e'⟩ := key i s e
    rw [wipe_get σ i _ n] at g
    exact ⟨i, s, ds, e', hm, g⟩
theorem noOwn_at {env : En} {i : Nat} {s : Sl} : ∀ {own : List (Str × Nat)}, noOwn env own = true → i ∈ ixs own → env.at i = some s → s.m = none
  | [], _, hm, _ => by simp [ixs] at hm
  | p :: r, h, hm, e => by
    unfold noOwn at h
    rw [Bool.and_eq_true] at h
    unfold ixs at hm
    rw [List.map_cons] at hm
    rcases List.mem_cons.mp hm with z | z
    · have h1 := h.1
      rw [← z, e] at h1
      cases s with
      | v d => rfl
      | o ds => cases h1
      | b ds => cases h1
    · exact noOwn_at h.2 z e
theorem Rel.back {H1 F1 : Hp} {e1 : En} {own : List (Str × Nat)} (R1 : Rel K G σ H1 F1 e1) (hn : noOwn e1 own = true) (R : Rel K G (wipe σ (ixs own)) H F env) (m : Same F1 F) :
    Rel K G σ H F (backE e1 env own) ∧ ∀ b, Own σ (backE e1 env own) b → Own (wipe σ (ixs own)) env b := by
  have hlen : e1.length = env.length := by rw [R1.len, R.len, wipe_length]
  have key : ∀ i s, (backE e1 env own).at i = some s → (i ∈ ixs own ∧ e1.at i = some s ∧ s.m = none) ∨ (i ∉ ixs own ∧ env.at i = some s) := fun i s e => by
    rw [backE_at e1 env hlen] at e
    by_cases hm : i ∈ ixs own
    · rw [if_pos hm] at e
      exact .inl ⟨hm, e, noOwn_at hn hm e⟩
    · rw [if_neg hm] at e
      exact .inr ⟨hm, e⟩
  have mut1 : ∀ i s ds, (backE e1 env own).at i = some s → s.m = some ds → i ∉ ixs own ∧ env.at i = some s := fun i s ds e hm => by
    rcases key i s e with ⟨_, _, z⟩ | z
    · rw [z] at hm
      cases hm
    · exact z
  refine ⟨⟨by rw [backE_len, R.len, wipe_length], R.sub, R.base, R.fro, R.live, R.new, fun i d e => ?_, fun i s ds e hm => ?_, fun i j p n z1 z2 g1 g2 => ?_⟩, fun b z => ?_⟩
  · rcases key i _ e with ⟨_, e', _⟩ | ⟨n, e'⟩
    · obtain ⟨v, a, q⟩ := R1.val i d e'
      exact ⟨v, a, dpMono m d q⟩
    · have := R.val i d e'
      rw [wipe_get σ i _ n] at this
      exact this
  · obtain ⟨n, e'⟩ := mut1 i s ds e hm
    have := R.mu i s ds e' hm
    rw [wipe_get σ i _ n] at this
    exact this
  · obtain ⟨s, ds, e, hm⟩ := z1
    obtain ⟨s', ds', e', hm'⟩ := z2
    obtain ⟨n1, k1⟩ := mut1 i s ds e hm
    obtain ⟨n2, k2⟩ := mut1 j s' ds' e' hm'
    rw [← wipe_get σ i _ n1] at g1
    rw [← wipe_get σ j _ n2] at g2
    exact R.apart i j p n ⟨s, ds, k1, hm⟩ ⟨s', ds', k2, hm'⟩ g1 g2
  · obtain ⟨i, s, ds, e, hm, g⟩ := z
    obtain ⟨n, e'⟩ := mut1 i s ds e hm
    rw [← wipe_get σ i _ n] at g
    exact ⟨i, s, ds, e', hm, g⟩
end
/-! ### what is walked -/
section
variable {K : PySem.W.Frag}
/-- at each turn below n the walk gives the data's next item -/
structure WalkD (K : PySem.W.Frag) (F : Hp) (J : It) (ds : List PyData) : Prop where
  ex : ∃ (Gd : Hp → Prop) (Y : Nat → Hp → V → Hp → Prop), Walk J ds.length Gd Y ∧ (∀ H, Same F H → Gd H) ∧
    ∀ i H x H' F1, i < ds.length → Y i H x H' → Same F F1 → Same F1 H → ∃ F2, Same F1 F2 ∧ Same F2 H' ∧ Same H H' ∧ (∀ b, F2 b ≠ none → F1 b ≠ none ∨ H b = none) ∧ ∃ d, ds[i]? = some d ∧ Dq K F2 x d
theorem sqlMono {H H' : Hp} {a : Addr} {xs : List V} (e : Same H H') (h : SqL K H a xs) : SqL K H' a xs := e.seq h
theorem walkD_list {F : Hp} {p : Addr} {vs : List V} {ds : List PyData} (h : RdL K F p vs) (q : DqAll K F vs ds) : WalkD K F (Itl K p) ds := by
  refine ⟨fun H => SqL K H p vs, YAt vs, ?_, fun H s => (rdlMono s h).sql, fun i H x H' F1 hi y m s => ?_⟩
  · rw [← dpAll_len q]
    exact walk_list
  · obtain ⟨rfl, e⟩ := y
    obtain ⟨d, e2, q2⟩ := dpAll_get' q e
    exact ⟨F1, Same.refl _, s, Same.refl _, fun _ z => .inl z, d, e2, dpMono m d q2⟩
theorem walkD_tup {F : Hp} {p : Addr} {vs : List V} {ds : List PyData} (h : SqT K F p vs) (q : DqAll K F vs ds) : WalkD K F (Itt K p) ds := by
  refine ⟨fun H => SqT K H p vs, YAt vs, ?_, fun H s => sqtMono s h, fun i H x H' F1 hi y m s => ?_⟩
  · rw [← dpAll_len q]
    exact walk_tup
  · obtain ⟨rfl, e⟩ := y
    obtain ⟨d, e2, q2⟩ := dpAll_get' q e
    exact ⟨F1, Same.refl _, s, Same.refl _, fun _ z => .inl z, d, e2, dpMono m d q2⟩
theorem rngD_len (lo : Int) (n : Nat) : (rngD lo n).length = n := by
  unfold rngD
  rw [List.length_map, List.length_range]
theorem rngD_get {lo : Int} {n i : Nat} (h : i < n) : (rngD lo n)[i]? = some (.int (lo + i)) := by
  unfold rngD
  rw [List.getElem?_map, List.getElem?_range h]
  rfl
theorem walkD_range {F : Hp} (lo : Int) (n : Nat) : WalkD K F (Itr lo n) (rngD lo n) := by
  refine ⟨fun _ => True, YFn fun i => .int (lo + i), ?_, fun _ _ => trivial, fun i H x H' F1 hi y m s => ?_⟩
  · rw [rngD_len]
    exact walk_range
  · obtain ⟨rfl, rfl⟩ := y
    rw [rngD_len] at hi
    exact ⟨F1, Same.refl _, s, Same.refl _, fun _ z => .inl z, _, rngD_get hi, .int _⟩
theorem pairStep {H H' F1 : Hp} {x : V} {a b : V} {da db : PyData} {T : Addr} (hx : x = .ref T) (hT : H T = none) (hH : H' = upd H T (.tup [a, b])) (s : Same F1 H) (qa : Dq K F1 a da) (qb : Dq K F1 b db) :
    ∃ F2, Same F1 F2 ∧ Same F2 H' ∧ Same H H' ∧ (∀ c, F2 c ≠ none → F1 c ≠ none ∨ H c = none) ∧ Dq K F2 x (.tuple [da, db]) := by
  subst hx hH
  have fT : F1 T = none := s.free hT
  have m1 : Same F1 (upd F1 T (.tup [a, b])) := same_upd1 fT
  refine ⟨upd F1 T (.tup [a, b]), m1, fun c o e => ?_, same_upd1 hT, fun c h => ?_, .tup (.inl (.inl upd_same)) (dpAllMono m1 _ (.cons qa (.cons qb .nil)))⟩
  · by_cases hc : c = T
    · subst hc
      rw [upd_same] at e ⊢
      exact e
    · rw [upd_ne hc] at e ⊢
      exact s c o e
  · by_cases hc : c = T
    · subst hc
      exact .inr hT
    · rw [upd_ne hc] at h
      exact .inl h
theorem zipD_len : ∀ (xs ys : List PyData), (zipD xs ys).length = min xs.length ys.length
  | [], ys => by simp [zipD]
  | x :: xs, [] => by simp [zipD]
  | x :: xs, y :: ys => by
    unfold zipD
    rw [List.length_cons, zipD_len xs ys, List.length_cons, List.length_cons]
    omega
theorem zipD_get : ∀ {xs ys : List PyData} {i : Nat} {a b : PyData}, xs[i]? = some a → ys[i]? = some b → (zipD xs ys)[i]? = some (.tuple [a, b])
  | [], _, _, _, _, h, _ => by simp at h
  | _ :: _, [], _, _, _, _, h => by simp at h
  | x :: xs, y :: ys, 0, a, b, h1, h2 => by
    cases h1
    cases h2
    rfl
  | x :: xs, y :: ys, i + 1, a, b, h1, h2 => zipD_get (xs := xs) (ys := ys) (i := i) h1 h2
theorem walkD_zipL {F : Hp} {p p2 : Addr} {vs ws : List V} {ds es : List PyData} (h : RdL K F p vs) (q : DqAll K F vs ds) (h2 : RdL K F p2 ws) (q2 : DqAll K F ws es) : WalkD K F (Itz K p p2) (zipD ds es) := by
  refine ⟨fun H => SqL K H p vs ∧ SqL K H p2 ws, YPair (fun i => vs[i]?) (fun i => ws[i]?), ?_, fun H s => ⟨(rdlMono s h).sql, (rdlMono s h2).sql⟩, fun i H x H' F1 hi y m s => ?_⟩
  · exact walk_zip (by rw [zipD_len, dpAll_len q, dpAll_len q2])
  · obtain ⟨T, a, b, e1, e2, e3, e4, e5⟩ := y
    obtain ⟨da, g1, k1⟩ := dpAll_get' q e4
    obtain ⟨db, g2, k2⟩ := dpAll_get' q2 e5
    obtain ⟨F2, c1, c2, c3, c4, c5⟩ := pairStep e1 e2 e3 s (dpMono m _ k1) (dpMono m _ k2)
    exact ⟨F2, c1, c2, c3, c4, _, zipD_get g1 g2, c5⟩
theorem enumD_len : ∀ (i : Nat) (xs : List PyData), (enumD i xs).length = xs.length
  | _, [] => rfl
  | i, x :: xs => by
    unfold enumD
    rw [List.length_cons, enumD_len (i + 1) xs, List.length_cons]
theorem enumD_get : ∀ {j : Nat} {xs : List PyData} {i : Nat} {a : PyData}, xs[i]? = some a → (enumD j xs)[i]? = some (.tuple [.int ((j + i : Nat) : Int), a])
  | _, [], _, _, h => by simp at h
  | j, x :: xs, 0, a, h => by
    cases h
    rfl
  | j, x :: xs, i + 1, a, h => by
    have := enumD_get (j := j + 1) (xs := xs) (i := i) (a := a) (by simpa using h)
    unfold enumD
    rw [List.getElem?_cons_succ, this, show j + 1 + i = j + (i + 1) by omega]
theorem walkD_enumL {F : Hp} {p : Addr} {vs : List V} {ds : List PyData} (h : RdL K F p vs) (q : DqAll K F vs ds) : WalkD K F (Ite K p) (enumD 0 ds) := by
  refine ⟨fun H => SqL K H p vs, YPair (fun i => some (.int (i : Nat))) (fun i => vs[i]?), ?_, fun H s => (rdlMono s h).sql, fun i H x H' F1 hi y m s => ?_⟩
  · rw [enumD_len, ← dpAll_len q]
    exact walk_enum
  · obtain ⟨T, a, b, e1, e2, e3, e4, e5⟩ := y
    have e4' : V.int (i : Nat) = a := Option.some.inj e4
    subst e4'
    obtain ⟨db, g2, k2⟩ := dpAll_get' q e5
    obtain ⟨F2, c1, c2, c3, c4, c5⟩ := pairStep e1 e2 e3 s (.int (i : Nat)) (dpMono m _ k2)
    refine ⟨F2, c1, c2, c3, c4, _, enumD_get g2, ?_⟩
    rw [Nat.zero_add]
    exact c5
end
end PF

/-! PF6: readings of the small language, one lemma a form. -/
namespace PF
open PySem PySem.Spec PyProof.Rows L2
section
variable (K : PySem.W.Frag) (Γ : Tab) (C : List (Str × PyData))
def HV (σ : L2.St) (F : Hp) (v : V) : Hd → Prop
  | .d z => Dq K F v z
  | .s i => σ[i]? = some (some v)
def rE (e : IE) : TE := fun σ H Q => ∃ G F env r env', Rel K G σ H F env ∧ runE Γ C e env = some (r, env') ∧ ∀ v H' F', Rel K G σ H' F' env' → Ext σ env H F H' F' env' → RV K H H' F' v r → Q v H'
def rH (e : IE) : TE := fun σ H Q => ∃ G F env h env', Rel K G σ H F env ∧ hd e (runE Γ C e env) env = some (h, env') ∧ ∀ v H' F', Rel K G σ H' F' env' → Ext σ env H F H' F' env' → HV K σ F' v h → Q v H'
def rT (t : IT) : TT := fun σ H Q => ∃ G F env b env', Rel K G σ H F env ∧ runT Γ C t env = some (b, env') ∧ ∀ H' F', Rel K G σ H' F' env' → Ext σ env H F H' F' env' → Q b H'
def rO (o : IO) : TO := fun σ H Q => ∃ G F env r env', Rel K G σ H F env ∧ runO Γ C o env = some (r, env') ∧ ∀ H' F', Rel K G σ H' F' env' → Ext σ env H F H' F' env' → Q r H'
def rL (es : IL) : TA := fun σ H Q => ∃ G F env hs env', Rel K G σ H F env ∧ runL Γ C es env = some (hs, env') ∧ ∀ vs H' F', Rel K G σ H' F' env' → Ext σ env H F H' F' env' → Paired (HV K σ F') vs hs → Q vs H'
def rV (es : IL) : TA := fun σ H Q => ∃ G F env hs env', Rel K G σ H F env ∧ runV Γ C es env = some (hs, env') ∧ ∀ vs H' F', Rel K G σ H' F' env' → Ext σ env H F H' F' env' → Paired (HV K σ F') vs hs → Q vs H'
def rI (it : II) : TI := fun σ H R => ∃ G F env ds env', Rel K G σ H F env ∧ runI Γ C it env = some (ds, env') ∧ ∀ J H' F', Rel K G σ H' F' env' → Ext σ env H F H' F' env' → WalkD K F' J ds → R J H'
def rG (g : IG) : TG := fun v σ H Q => ∃ G F env d env', Rel K G σ H F env ∧ Dq K F v d ∧ runG g d env = some env' ∧
  ∀ σ', Rel K G σ' H F env' → σ'.length = σ.length → (∀ i, i ∉ slotsG g → σ'[i]? = σ[i]?) → (∀ b, Own σ' env' b → Own σ env b) → Q σ' H
def rGs (gs : IGs) : TGs := fun vs σ H Q => ∃ G F env ds env', Rel K G σ H F env ∧ DqAll K F vs ds ∧ runGs gs ds env = some env' ∧
  ∀ σ', Rel K G σ' H F env' → σ'.length = σ.length → (∀ i, i ∉ slotsGs gs → σ'[i]? = σ[i]?) → (∀ b, Own σ' env' b → Own σ env b) → Q σ' H
end
section
variable {K : PySem.W.Frag} {G : Gh} {σ : L2.St} {H F H' F' : Hp} {env env' : En}
theorem obind {α β : Type} {o : Option α} {f : α → Option β} {y : β} (h : o.bind f = some y) : ∃ x, o = some x ∧ f x = some y := Option.bind_eq_some_iff.mp h
theorem RV.back {H1 : Hp} {v : V} {r : Sl} (q : RV K H1 H' F' v r) (l : ∀ b, H b ≠ none → H1 b ≠ none) : RV K H H' F' v r := by
  cases r with
  | v d => exact q
  | b ds => exact q
  | o ds =>
    obtain ⟨p, vs, e, h1, h2, h3, h4⟩ := q
    refine ⟨p, vs, e, ?_, h2, h3, h4⟩
    cases z : H p with
    | none => rfl
    | some o => exact absurd h1 (l p (by rw [z]; simp))
theorem made_of {H2 F2 : Hp} {env2 : En} {r : Sl} {Q : VK} (E : Ext σ env H F H2 F2 env2) (R2 : Rel K G σ H2 F2 env2)
    (k : ∀ v H' F', Rel K G σ H' F' env2 → Ext σ env H F H' F' env2 → RV K H H' F' v r → Q v H') : Made K H2 F2 r Q := fun v H' F' m1 m2 m3 fr q => by
  obtain ⟨R3, E3⟩ := R2.grow m1 m2 m3 fr
  exact k v H' F' R3 (E.trans E3) (q.back E.live)
theorem HV.mono {v : V} {h : Hd} (m : Same F F') (q : HV K σ F v h) : HV K σ F' v h := by
  cases h with
  | d z => exact dpMono m z q
  | s i => exact q
theorem HV.opd (R : Rel K G σ H F env) {v : V} {h : Hd} {d : PyData} (q : HV K σ F v h) (e : h.get env = some d) : Opd K F H v d := by
  cases h with
  | d z =>
    cases e
    exact .inl q
  | s i =>
    have e : (env.at i).map Sl.d = some d := e
    cases e2 : env.at i with
    | none =>
      rw [e2] at e
      cases e
    | some s =>
      rw [e2] at e
      cases e
      have q' : σ[i]? = some (some v) := q
      cases s with
      | v d =>
        obtain ⟨w, a, k⟩ := R.val i d e2
        rw [q'] at a
        cases a
        exact .inl k
      | o ds =>
        obtain ⟨p, vs, a, f, hp, k, _⟩ := R.mu i _ ds e2 rfl
        rw [q'] at a
        cases a
        exact .inr ⟨p, vs, ds, rfl, rfl, hp, k⟩
      | b ds =>
        obtain ⟨p, vs, a, f, hp, k, _⟩ := R.mu i _ ds e2 rfl
        rw [q'] at a
        cases a
        exact .inr ⟨p, vs, ds, rfl, rfl, hp, k⟩
theorem paired_mono {α β : Type} {A B : α → β → Prop} (f : ∀ a b, A a b → B a b) : ∀ {l : List α} {m : List β}, Paired A l m → Paired B l m
  | _, _, .nil => .nil
  | _, _, .cons a t => .cons (f _ _ a) (paired_mono f t)
theorem opdAll_of (R : Rel K G σ H F env) : ∀ {vs : List V} {hs : List Hd} {ds : List PyData}, Paired (HV K σ F) vs hs → getL env hs = some ds → Paired (Opd K F H) vs ds
  | _, _, _, .nil, e => by
    cases e
    exact .nil
  | _, h :: hs, _, .cons q t, e => by
    unfold getL at e
    obtain ⟨d, e1, e⟩ := obind e
    obtain ⟨es, e2, e⟩ := obind e
    cases e
    exact .cons (q.opd R e1) (opdAll_of R t e2)
theorem dqAll_of : ∀ {vs : List V} {hs : List Hd} {ds : List PyData}, Paired (HV K σ F) vs hs → getD hs = some ds → DqAll K F vs ds
  | _, _, _, .nil, e => by
    cases e
    exact .nil
  | _, .d z :: hs, _, .cons q t, e => by
    unfold getD at e
    obtain ⟨es, e2, e⟩ := obind e
    cases e
    exact .cons q (dqAll_of t e2)
  | _, .s i :: hs, _, .cons q t, e => by cases e
theorem setv_own {i : Nat} {d : PyData} {v : V} (hl : env.length = σ.length) (h : env.put i (.v d) = some env') (b : Addr) (z : Own (σ.set i (some v)) env' b) : Own σ env b := by
  obtain ⟨rfl, _⟩ := put_inv h
  obtain ⟨j, s, ds, e, hm, g⟩ := z
  rw [at_set] at e
  by_cases hj : i = j ∧ i < env.length
  · rw [if_pos hj] at e
    cases e
    cases hm
  · rw [if_neg hj] at e
    refine ⟨j, s, ds, e, hm, ?_⟩
    rw [st_get, if_neg fun z => hj ⟨z, by rw [z]; exact at_lt e⟩] at g
    exact g
def ArgsP (K : PySem.W.Frag) (σ : L2.St) (H F : Hp) (env : En) (k : Bool) (vs : List V) (hs : List Hd) (as : List Sl) : Prop :=
    Paired (ArgR K F H) vs as ∧ (k = true → ∀ (i : Nat) (d : List PyData), as[i]? = some (.b d) → False) ∧ (∀ (i j : Nat) (d e : List PyData), as[i]? = some (.b d) → as[j]? = some (.b e) → i = j) ∧
    (∀ p, LentAt vs as p → ∃ i s ds, lentS hs = some i ∧ env.at i = some s ∧ s.m = some ds ∧ σ[i]? = some (some (.ref p))) ∧
    (∀ i, lentS hs = some i → ∃ p s ds, env.at i = some s ∧ s.m = some ds ∧ σ[i]? = some (some (.ref p)) ∧ LentAt vs as p)
/-- the callers' arguments -/
theorem args_of (R : Rel K G σ H F env) : ∀ {k : Bool} {vs : List V} {hs : List Hd} {as : List Sl}, Paired (HV K σ F) vs hs → getA env k hs = some as → ArgsP K σ H F env k vs hs as := by
  intro k vs hs
  induction hs generalizing k vs with
  | nil =>
    intro as h e
    cases h
    cases e
    exact ⟨.nil, fun _ i d z => by simp at z, fun i j d e z => by simp at z, fun p ⟨i, ds, z, _⟩ => by simp at z, fun i z => by cases z⟩
  | cons h hs ih =>
    intro as q e
    cases q with
    | @cons v _ vs _ q t =>
      cases h with
      | d z =>
        have e : (getA env k hs).bind (fun ds => some (Sl.v z :: ds)) = some as := by cases k <;> exact e
        obtain ⟨bs, e1, e⟩ := obind e
        cases e
        obtain ⟨i1, i2, i3, i4, i5⟩ := ih t e1
        refine ⟨.cons q i1, fun hk i d y => ?_, fun i j d e y1 y2 => ?_, fun p ⟨i, ds, y1, y2⟩ => ?_, fun i y => ?_⟩
        · cases i with
          | zero => cases y
          | succ i => exact i2 hk i d y
        · cases i with
          | zero => cases y1
          | succ i =>
            cases j with
            | zero => cases y2
            | succ j => exact congrArg (· + 1) (i3 i j d e y1 y2)
        · cases i with
          | zero => cases y1
          | succ i => exact i4 p ⟨i, ds, y1, y2⟩
        · obtain ⟨p, s, ds, a1, a2, a3, j, es, b1, b2⟩ := i5 i y
          exact ⟨p, s, ds, a1, a2, a3, j + 1, es, b1, b2⟩
      | s i0 =>
        cases k with
        | true => cases e
        | false =>
          have q' : σ[i0]? = some (some v) := q
          have main : ∀ (s : Sl) (ds : List PyData), env.at i0 = some s → s.m = some ds → (getA env true hs).bind (fun l => some (Sl.b ds :: l)) = some as → ArgsP K σ H F env false (v :: vs) (Hd.s i0 :: hs) as := fun s ds e0 hm e => by
            obtain ⟨bs, e1, e⟩ := obind e
            cases e
            obtain ⟨p, ws, a, f, hp, dq, _⟩ := R.mu i0 s ds e0 hm
            rw [q'] at a
            cases a
            obtain ⟨i1, i2, i3, i4, i5⟩ := ih t e1
            have P1 : Paired (ArgR K F H) (V.ref p :: vs) (Sl.b ds :: bs) := .cons ⟨p, ws, rfl, f, hp, dq⟩ i1
            have P2 : (false = true → ∀ (i : Nat) (d : List PyData), (Sl.b ds :: bs)[i]? = some (.b d) → False) := fun z => nomatch z
            have P3 : ∀ (i j : Nat) (d e : List PyData), (Sl.b ds :: bs)[i]? = some (.b d) → (Sl.b ds :: bs)[j]? = some (.b e) → i = j := fun i j d e y1 y2 => by
              cases i with
              | zero =>
                cases j with
                | zero => rfl
                | succ j => exact (i2 rfl j e y2).elim
              | succ i => exact (i2 rfl i d y1).elim
            have P4 : ∀ p', LentAt (V.ref p :: vs) (Sl.b ds :: bs) p' → ∃ i s ds, lentS (Hd.s i0 :: hs) = some i ∧ env.at i = some s ∧ s.m = some ds ∧ σ[i]? = some (some (.ref p')) := fun p' ⟨i, es, y1, y2⟩ => by
              cases i with
              | zero =>
                cases y2
                exact ⟨i0, s, ds, rfl, e0, hm, q'⟩
              | succ i => exact (i2 rfl i es y1).elim
            have P5 : ∀ i, lentS (Hd.s i0 :: hs) = some i → ∃ p' s ds', env.at i = some s ∧ s.m = some ds' ∧ σ[i]? = some (some (.ref p')) ∧ LentAt (V.ref p :: vs) (Sl.b ds :: bs) p' := fun i y => by
              cases y
              exact ⟨p, s, ds, e0, hm, q', 0, ds, rfl, rfl⟩
            exact And.intro P1 (And.intro P2 (And.intro P3 (And.intro P4 P5)))
          unfold getA at e
          split at e
          · rename_i ds e0
            exact main _ ds e0 rfl e
          · rename_i ds e0
            exact main _ ds e0 rfl e
          · cases e
end
end PF

/-! PF7: the forms of expressions, one lemma each. -/
namespace PF
open PySem PySem.Spec PyProof.Rows L2
section
variable {X : Cx} {C : Cfg} {S : Sc} {Γ : Tab} {n : Nat}
theorem h_gen {a : IE} {z : Expr} (hne : ∀ (r : RE) (env : En), hd a r env = r.bind fun p => some (.d p.1.d, p.2)) (p : PE X z (rE X.K Γ C.cons a)) : PE X z (rH X.K Γ C.cons a) := by
  refine pe_mono p fun σ H Q ⟨G, F, env, h, env', R, e, k⟩ => ?_
  rw [hne] at e
  obtain ⟨r, e1, e⟩ := obind e
  cases e
  refine ⟨G, F, env, r.1, r.2, R, e1, fun v H' F' R' E' q => ?_⟩
  obtain ⟨F2, R2, E2, q2⟩ := R.settle R' E' q
  exact k v H' F2 R2 E2 q2
theorem nm_val {K : PySem.W.Frag} {G : Gh} {σ : L2.St} {H F : Hp} {env : En} (R : Rel K G σ H F env) {i : Nat} (h : (env.at i).isSome = true) : ∃ v, σ[i]? = some (some v) := by
  cases e : env.at i with
  | none =>
    rw [e] at h
    cases h
  | some s =>
    cases s with
    | v d =>
      obtain ⟨v, a, _⟩ := R.val i d e
      exact ⟨v, a⟩
    | o ds =>
      obtain ⟨p, _, a, _⟩ := R.mu i _ ds e rfl
      exact ⟨_, a⟩
    | b ds =>
      obtain ⟨p, _, a, _⟩ := R.mu i _ ds e rfl
      exact ⟨_, a⟩
theorem h_of (hC : COk X C Γ n) (hS : SOk X S) {a : IE} {z : Expr} (h : chkE C S a [z] none = true) (p : PE X z (rE X.K Γ C.cons a)) : PE X z (rH X.K Γ C.cons a) := by
  cases a with
  | x i =>
    cases z with
    | Name y pos =>
      refine pe_mono (pe_nm hC hS h) fun σ H Q ⟨G, F, env, h, env', R, e, k⟩ => ?_
      unfold hd at e
      simp only at e
      split at e
      · rename_i hs
        cases e
        obtain ⟨v, a⟩ := nm_val R hs
        exact ⟨v, a, k v H F R Ext.refl a⟩
      · cases e
    | _ => exact absurd h Bool.false_ne_true
  | _ => exact h_gen (fun _ _ => rfl) p
theorem f_k {d : PyData} {c : Const} {j : Nat} {p : Pos} (h : (match constD c with
      | some d' => eqFlat d d'
      | none => false) = true) : PE X (.Constant c j p) (rE X.K Γ C.cons (.k d)) := by
  cases c with
  | none =>
    cases d <;> first | exact absurd h Bool.false_ne_true | skip
    exact pe_mono pe_non fun σ H Q ⟨G, F, env, h, env', R, e, k⟩ => by
      cases e
      exact k _ H F R Ext.refl .non
  | bool b =>
    cases d <;> first | exact absurd h Bool.false_ne_true | skip
    rename_i b'
    cases (show b' = b from eq_of_beq h)
    exact pe_mono pe_bl fun σ H Q ⟨G, F, env, h, env', R, e, k⟩ => by
      cases e
      exact k _ H F R Ext.refl (.bl _)
  | int i =>
    cases d <;> first | exact absurd h Bool.false_ne_true | skip
    rename_i i'
    cases (show i' = i from of_decide_eq_true h)
    exact pe_mono pe_int fun σ H Q ⟨G, F, env, h, env', R, e, k⟩ => by
      cases e
      exact k _ H F R Ext.refl (.int _)
  | str x =>
    cases d <;> first | exact absurd h Bool.false_ne_true | skip
    rename_i x'
    cases (show x' = x from of_decide_eq_true h)
    exact pe_mono pe_str fun σ H Q ⟨G, F, env, h, env', R, e, k⟩ => by
      cases e
      exact k _ H F R Ext.refl (.str _)
  | float _ => exact absurd h Bool.false_ne_true
  | complex _ _ => exact absurd h Bool.false_ne_true
  | bytes _ => exact absurd h Bool.false_ne_true
  | ellipsis => exact absurd h Bool.false_ne_true
theorem f_x (hC : COk X C Γ n) (hS : SOk X S) {i : Nat} {y : Str} {p : Pos} (h : nmS C S i y = true) : PE X (.Name y p) (rE X.K Γ C.cons (.x i)) := by
  refine pe_mono (pe_nm hC hS h) fun σ H Q ⟨G, F, env, r, env', R, e, k⟩ => ?_
  have e : useI env i = some (r, env') := e
  unfold useI at e
  split at e
  · rename_i d e0
    cases e
    obtain ⟨v, a, q⟩ := R.val i d e0
    exact ⟨v, a, k v H F R Ext.refl q⟩
  · rename_i ds e0
    cases e
    obtain ⟨p, vs, a, R2, E2, q⟩ := R.useO e0
    exact ⟨_, a, k _ _ _ R2 E2 q⟩
  · cases e
theorem f_g (hC : COk X C Γ n) (hS : SOk X S) {x : Str} {p : Pos} (hg : glS S x = true) (hn : okN x = true) : PE X (.Name x p) (rE X.K Γ C.cons (.g x)) := by
  cases e0 : C.cons.lookup x with
  | none =>
    refine ⟨fun pins s σ H Q I ⟨G, F, env, r, env', R, e, k⟩ => ?_⟩
    have e : (C.cons.lookup x).bind (fun d => some (Sl.v d, env)) = some (r, env') := e
    rw [e0] at e
    cases e
  | some d =>
    obtain ⟨u, v, hm, rv, q⟩ := hC.cons x d e0
    refine pe_mono (pe_glob (gl_of hS hg) hm rv (okN_1 hn)) fun σ H Q ⟨G, F, env, r, env', R, e, k⟩ => ?_
    have e : (C.cons.lookup x).bind (fun d => some (Sl.v d, env)) = some (r, env') := e
    rw [e0] at e
    cases e
    exact k v H F R Ext.refl (q F)
/-- two operands, then an operation -/
theorem two_ops {K : PySem.W.Frag} {cons : List (Str × PyData)} {a b : IE} {σ : L2.St} {H : Hp} {R : V → V → Hp → Prop} {G : Gh} {F : Hp} {env : En} {p q : Hd × En} (R0 : Rel K G σ H F env)
    (e1 : hd a (runE Γ cons a env) env = some p) (e2 : hd b (runE Γ cons b p.2) p.2 = some q)
    (k : ∀ v w H2 F2, Rel K G σ H2 F2 q.2 → Ext σ env H F H2 F2 q.2 → HV K σ F2 v p.1 → HV K σ F2 w q.1 → R v w H2) :
    rH K Γ cons a σ H fun v H1 => rH K Γ cons b σ H1 fun w H2 => R v w H2 := by
  refine ⟨G, F, env, p.1, p.2, R0, e1, fun v H1 F1 R1 E1 q1 => ⟨G, F1, p.2, q.1, q.2, R1, e2, fun w H2 F2 R2 E2 q2 => ?_⟩⟩
  exact k v w H2 F2 R2 (E1.trans E2) (q1.mono E2.mono) q2
theorem f_bin (hC : COk X C Γ n) {op : Operator} {a b : IE} {x y : Expr} {pos : Pos} (ha : PE X x (rH X.K Γ C.cons a)) (hb : PE X y (rH X.K Γ C.cons b)) : PE X (.BinOp x op y pos) (rE X.K Γ C.cons (.bin op a b)) := by
  refine pe_mono (pe_op (op_bin op) ha hb) fun σ H Q ⟨G, F, env, r, env', R, e, k⟩ => ?_
  obtain ⟨p, e1, e⟩ := obind e
  obtain ⟨q, e2, e⟩ := obind e
  obtain ⟨x, e3, e⟩ := obind e
  obtain ⟨y, e4, e⟩ := obind e
  obtain ⟨z, e5, e⟩ := obind e
  cases e
  exact two_ops R e1 e2 fun v w H2 F2 R2 E2 q1 q2 => ⟨F2, _, _, _, R2.sub, q1.opd R2 e3, q2.opd R2 e4, e5, made_of E2 R2 k⟩
theorem f_neg {a : IE} {x : Expr} {pos : Pos} (ha : PE X x (rH X.K Γ C.cons a)) : PE X (.UnaryOp .USub x pos) (rE X.K Γ C.cons (.neg a)) := by
  refine pe_mono (pe_un un_neg ha) fun σ H Q ⟨G, F, env, r, env', R, e, k⟩ => ?_
  obtain ⟨p, e1, e⟩ := obind e
  obtain ⟨d, e2, e⟩ := obind e
  obtain ⟨z, e3, e⟩ := obind e
  cases e
  refine ⟨G, F, env, p.1, p.2, R, e1, fun v H1 F1 R1 E1 q1 => ?_⟩
  cases d <;> first | cases e3 | skip
  cases opd_int (q1.opd R1 e2)
  exact ⟨_, rfl, k _ _ _ R1 E1 (.int _)⟩
theorem f_not {a : IE} {x : Expr} {pos : Pos} (ha : PE X x (rH X.K Γ C.cons a)) : PE X (.UnaryOp .Not x pos) (rE X.K Γ C.cons (.not a)) := by
  refine pe_mono (pe_notT ha) fun σ H Q ⟨G, F, env, r, env', R, e, k⟩ => ?_
  obtain ⟨p, e1, e⟩ := obind e
  obtain ⟨d, e2, e⟩ := obind e
  obtain ⟨z, e3, e⟩ := obind e
  obtain ⟨t, e4, e3⟩ := obind e3
  cases e
  cases e3
  exact ⟨G, F, env, p.1, p.2, R, e1, fun v H1 F1 R1 E1 q1 => ⟨t, opd_tru R1.sub (q1.opd R1 e2) e4, k _ _ _ R1 E1 (.bl _)⟩⟩
theorem f_and {a b : IE} {x y : Expr} {r : List Expr} {pos : Pos} (ha : PE X x (rE X.K Γ C.cons a)) (hb : PE X (.BoolOp .And (y :: r) pos) (rE X.K Γ C.cons b)) : PE X (.BoolOp .And (x :: y :: r) pos) (rE X.K Γ C.cons (.and a b)) := by
  refine pe_mono (pe_andT ha hb) fun σ H Q ⟨G, F, env, r, env', R, e, k⟩ => ?_
  obtain ⟨p, e1, e⟩ := obind e
  obtain ⟨t, e2, e⟩ := obind e
  refine ⟨G, F, env, p.1, p.2, R, e1, fun v H1 F1 R1 E1 q1 => ?_⟩
  obtain ⟨F2, R2, E2, q2⟩ := R.settle R1 E1 q1
  refine ⟨t, opd_tru R2.sub (.inl q2) e2, ?_⟩
  cases t with
  | true => exact iteT ⟨G, F2, p.2, r, env', R2, e, fun w H3 F3 R3 E3 q3 => k w H3 F3 R3 (E2.trans E3) (q3.back E2.live)⟩
  | false =>
    cases e
    exact iteF (k v H1 F2 R2 E2 q2)
theorem f_or {a b : IE} {x y : Expr} {r : List Expr} {pos : Pos} (ha : PE X x (rE X.K Γ C.cons a)) (hb : PE X (.BoolOp .Or (y :: r) pos) (rE X.K Γ C.cons b)) : PE X (.BoolOp .Or (x :: y :: r) pos) (rE X.K Γ C.cons (.or a b)) := by
  refine pe_mono (pe_orT ha hb) fun σ H Q ⟨G, F, env, r, env', R, e, k⟩ => ?_
  obtain ⟨p, e1, e⟩ := obind e
  obtain ⟨t, e2, e⟩ := obind e
  refine ⟨G, F, env, p.1, p.2, R, e1, fun v H1 F1 R1 E1 q1 => ?_⟩
  obtain ⟨F2, R2, E2, q2⟩ := R.settle R1 E1 q1
  refine ⟨t, opd_tru R2.sub (.inl q2) e2, ?_⟩
  cases t with
  | false => exact iteF ⟨G, F2, p.2, r, env', R2, e, fun w H3 F3 R3 E3 q3 => k w H3 F3 R3 (E2.trans E3) (q3.back E2.live)⟩
  | true =>
    cases e
    exact iteT (k v H1 F2 R2 E2 q2)
theorem f_cmpR {a b : IE} {op : CmpOp} {σ : L2.St} {H : Hp} {Q : VK} (h : rE X.K Γ C.cons (.cmp op a b) σ H Q) : tOp (qCmp X.K op) (rH X.K Γ C.cons a) (rH X.K Γ C.cons b) σ H Q := by
  obtain ⟨G, F, env, r, env', R, e, k⟩ := h
  obtain ⟨p, e1, e⟩ := obind e
  obtain ⟨q, e2, e⟩ := obind e
  obtain ⟨x, e3, e⟩ := obind e
  obtain ⟨y, e4, e⟩ := obind e
  obtain ⟨z, e5, e⟩ := obind e
  cases e
  exact two_ops R e1 e2 fun v w H2 F2 R2 E2 q1 q2 => ⟨F2, x, y, z, R2.sub, q1.opd R2 e3, q2.opd R2 e4, e5, k _ _ _ R2 E2 (.bl _)⟩
theorem f_cmp (hC : COk X C Γ n) {op : CmpOp} {a b : IE} {x y : Expr} {pos : Pos} (ha : PE X x (rH X.K Γ C.cons a)) (hb : PE X y (rH X.K Γ C.cons b)) (py : plainA y = true) : PE X (.Compare x [op] [y] pos) (rE X.K Γ C.cons (.cmp op a b)) :=
  pe_mono (pe_cmpR (op_cmp hC.units op) ha hb (plain_marks py op)) fun _ _ _ h => f_cmpR h
theorem f_chR {a b c : IE} {op op' : CmpOp} {σ : L2.St} {H : Hp} {Q : VK} (h : rE X.K Γ C.cons (.ch op op' a b c) σ H Q) : tChain (qCmp X.K op) (qCmp X.K op') (rH X.K Γ C.cons a) (rH X.K Γ C.cons b) (rH X.K Γ C.cons c) σ H Q := by
  obtain ⟨G, F, env, r, env', R, e, k⟩ := h
  obtain ⟨p, e1, e⟩ := obind e
  obtain ⟨q, e2, e⟩ := obind e
  obtain ⟨x, e3, e⟩ := obind e
  obtain ⟨y, e4, e⟩ := obind e
  obtain ⟨z, e5, e⟩ := obind e
  refine two_ops R e1 e2 fun v w H2 F2 R2 E2 q1 q2 => ⟨F2, x, y, z, R2.sub, q1.opd R2 e3, q2.opd R2 e4, e5, z, rfl, ?_⟩
  cases z with
  | false =>
    cases e
    exact iteF (k _ _ _ R2 E2 (.bl _))
  | true =>
    obtain ⟨w3, e6, e⟩ := obind e
    obtain ⟨y', e7, e⟩ := obind e
    obtain ⟨z', e8, e⟩ := obind e
    obtain ⟨r', e9, e⟩ := obind e
    cases e
    refine iteT ⟨G, F2, q.2, w3.1, w3.2, R2, e6, fun u H3 F3 R3 E3 q3 => ⟨F3, y', z', r', R3.sub, (q2.mono E3.mono).opd R3 e7, q3.opd R3 e8, e9, k _ _ _ R3 (E2.trans E3) (.bl _)⟩⟩
theorem marks2 {y z : Expr} {op op' : CmpOp} (pz : plainA z = true) : lastMarks [op, op'] [y, z] = false := plain_marks pz op'
theorem f_ch (hC : COk X C Γ n) {op op' : CmpOp} {a b c : IE} {x y z : Expr} {pos : Pos} (ha : PE X x (rH X.K Γ C.cons a)) (hb : PE X y (rH X.K Γ C.cons b)) (hc : PE X z (rH X.K Γ C.cons c)) (pz : plainA z = true) :
    PE X (.Compare x [op, op'] [y, z] pos) (rE X.K Γ C.cons (.ch op op' a b c)) :=
  pe_mono (pe_chain (op_cmp hC.units op) (op_cmp hC.units op') ha hb hc (marks2 pz)) fun _ _ _ h => f_chR h
theorem f_ife {t : IT} {a b : IE} {z x y : Expr} {pos : Pos} (ht : PT X z (rT X.K Γ C.cons t)) (ha : PE X x (rE X.K Γ C.cons a)) (hb : PE X y (rE X.K Γ C.cons b)) : PE X (.IfExp z x y pos) (rE X.K Γ C.cons (.ife t a b)) := by
  refine pe_mono (pe_ifExp ht ha hb) fun σ H Q ⟨G, F, env, r, env', R, e, k⟩ => ?_
  obtain ⟨p, e1, e⟩ := obind e
  refine ⟨G, F, env, p.1, p.2, R, e1, fun H1 F1 R1 E1 => ?_⟩
  cases h : p.1 with
  | true =>
    rw [h] at e
    exact iteT ⟨G, F1, p.2, r, env', R1, e, fun w H3 F3 R3 E3 q3 => k w H3 F3 R3 (E1.trans E3) (q3.back E1.live)⟩
  | false =>
    rw [h] at e
    exact iteF ⟨G, F1, p.2, r, env', R1, e, fun w H3 F3 R3 E3 q3 => k w H3 F3 R3 (E1.trans E3) (q3.back E1.live)⟩
theorem f_ix {a b : IE} {x y : Expr} {pos : Pos} (ha : PE X x (rH X.K Γ C.cons a)) (hb : PE X y (rH X.K Γ C.cons b)) (py : plainA y = true) : PE X (.Subscript x y pos) (rE X.K Γ C.cons (.ix a b)) := by
  refine pe_mono (pe_ix ix_ok ha hb (plain_ix py)) fun σ H Q ⟨G, F, env, r, env', R, e, k⟩ => ?_
  obtain ⟨p, e1, e⟩ := obind e
  obtain ⟨q, e2, e⟩ := obind e
  obtain ⟨x, e3, e⟩ := obind e
  obtain ⟨y, e4, e⟩ := obind e
  obtain ⟨z, e5, e⟩ := obind e
  cases e
  exact two_ops R e1 e2 fun v w H2 F2 R2 E2 q1 q2 => ⟨F2, x, y, z, R2.sub, q1.opd R2 e3, q2.opd R2 e4, e5, fun u qu => k u _ _ R2 E2 qu⟩
theorem f_sl {a : IE} {lo hi : IO} {x : Expr} {u w : Option Expr} {p2 pos : Pos} (ha : PE X x (rH X.K Γ C.cons a)) (hl : PO X u (rO X.K Γ C.cons lo)) (hh : PO X w (rO X.K Γ C.cons hi)) : PE X (.Subscript x (.Slice u w none p2) pos) (rE X.K Γ C.cons (.sl a lo hi)) := by
  refine pe_mono (pe_slice sl_ok ha hl hh) fun σ H Q ⟨G, F, env, r, env', R, e, k⟩ => ?_
  obtain ⟨p, e1, e⟩ := obind e
  obtain ⟨q, e2, e⟩ := obind e
  obtain ⟨w, e3, e⟩ := obind e
  obtain ⟨x, e4, e⟩ := obind e
  obtain ⟨z, e5, e⟩ := obind e
  cases e
  refine ⟨G, F, env, p.1, p.2, R, e1, fun v H1 F1 R1 E1 q1 => ⟨G, F1, p.2, q.1, q.2, R1, e2, fun H2 F2 R2 E2 => ⟨G, F2, q.2, w.1, w.2, R2, e3, fun H3 F3 R3 E3 => ?_⟩⟩⟩
  exact ⟨F3, _, _, R3.sub, (q1.mono (E2.mono.trans E3.mono)).opd R3 e4, e5, made_of (E1.trans (E2.trans E3)) R3 k⟩
theorem f_rv {a : IE} {x : Expr} {j : Nat} {p1 p2 p3 pos : Pos} (ha : PE X x (rH X.K Γ C.cons a)) : PE X (.Subscript x (.Slice none none (some (.UnaryOp .USub (.Constant (.int 1) j p1) p2)) p3) pos) (rE X.K Γ C.cons (.rv a)) := by
  refine pe_mono (pe_revL ha) fun σ H Q ⟨G, F, env, r, env', R, e, k⟩ => ?_
  obtain ⟨p, e1, e⟩ := obind e
  obtain ⟨d, e2, e⟩ := obind e
  obtain ⟨z, e3, e⟩ := obind e
  cases e
  refine ⟨G, F, env, p.1, p.2, R, e1, fun v H1 F1 R1 E1 q1 => ?_⟩
  cases d <;> first | cases e3 | skip
  obtain ⟨a, vs, rfl, h1, q2⟩ := opd_list R1.sub (q1.opd R1 e2)
  exact ⟨a, vs, rfl, h1.sql, fun p hp => (made_of E1 R1 k).o R1.sub (dpAll_rev q2) hp⟩
/-! ### parts -/
theorem o_no : PO X none (rO X.K Γ C.cons .no) := po_mono po_none fun σ H Q ⟨G, F, env, r, env', R, e, k⟩ => by
  cases e
  exact k H F R Ext.refl
theorem o_so {a : IE} {z : Expr} (ha : PE X z (rH X.K Γ C.cons a)) : PO X (some z) (rO X.K Γ C.cons (.so a)) := po_mono (po_some ha) fun σ H Q ⟨G, F, env, r, env', R, e, k⟩ => by
  obtain ⟨p, e1, e⟩ := obind e
  obtain ⟨d, e2, e⟩ := obind e
  cases d <;> first | cases e | skip
  refine ⟨G, F, env, p.1, p.2, R, e1, fun v H1 F1 R1 E1 q1 => ?_⟩
  cases opd_int (q1.opd R1 e2)
  exact ⟨_, rfl, k H1 F1 R1 E1⟩
/-! ### lists of expressions -/
theorem l_nil : PA X [] (rL X.K Γ C.cons .nil) := pa_mono pa_nil fun σ H Q ⟨G, F, env, r, env', R, e, k⟩ => by
  cases e
  exact k [] H F R Ext.refl .nil
theorem l_cons {a : IE} {r : IL} {z : Expr} {zs : List Expr} (ha : PE X z (rH X.K Γ C.cons a)) (hr : PA X zs (rL X.K Γ C.cons r)) (pz : plainA z = true) : PA X (z :: zs) (rL X.K Γ C.cons (.cons a r)) :=
  pa_mono (pa_cons ha hr (plain_star pz _ _)) fun σ H Q ⟨G, F, env, hs, env', R, e, k⟩ => by
    obtain ⟨p, e1, e⟩ := obind e
    obtain ⟨q, e2, e⟩ := obind e
    cases e
    exact ⟨G, F, env, p.1, p.2, R, e1, fun v H1 F1 R1 E1 q1 => ⟨G, F1, p.2, q.1, q.2, R1, e2, fun vs H2 F2 R2 E2 q2 => k _ _ _ R2 (E1.trans E2) (.cons (q1.mono E2.mono) q2)⟩⟩
theorem v_nil : PA X [] (rV X.K Γ C.cons .nil) := pa_mono pa_nil fun σ H Q ⟨G, F, env, r, env', R, e, k⟩ => by
  cases e
  exact k [] H F R Ext.refl .nil
theorem v_cons {a : IE} {r : IL} {z : Expr} {zs : List Expr} (ha : PE X z (rE X.K Γ C.cons a)) (hr : PA X zs (rV X.K Γ C.cons r)) (pz : plainA z = true) : PA X (z :: zs) (rV X.K Γ C.cons (.cons a r)) :=
  pa_mono (pa_cons ha hr (plain_star pz _ _)) fun σ H Q ⟨G, F, env, hs, env', R, e, k⟩ => by
    obtain ⟨p, e1, e⟩ := obind e
    obtain ⟨q, e2, e⟩ := obind e
    cases e
    refine ⟨G, F, env, p.1, p.2, R, e1, fun v H1 F1 R1 E1 q1 => ?_⟩
    obtain ⟨F2, R2, E2, q2⟩ := R.settle R1 E1 q1
    exact ⟨G, F2, p.2, q.1, q.2, R2, e2, fun vs H3 F3 R3 E3 q3 => k _ _ _ R3 (E2.trans E3) (.cons (dpMono E3.mono _ q2) q3)⟩
theorem v_io (hC : COk X C Γ n) (hS : SOk X S) {i : Nat} {r : IL} {x : Str} {p : Pos} {zs : List Expr} (h : nmS C S i x = true) (hr : PA X zs (rV X.K Γ C.cons r)) : PA X (.Name x p :: zs) (rV X.K Γ C.cons (.io i r)) :=
  pa_mono (pa_cons (pe_nm hC hS h) hr (plain_star rfl _ _)) fun σ H Q ⟨G, F, env, hs, env', R, e, k⟩ => by
    have e : (if (env.at i).isSome = true then (runV Γ C.cons r env).bind (fun q => some (Hd.s i :: q.1, q.2)) else none) = some (hs, env') := e
    split at e
    · rename_i hi
      obtain ⟨q, e2, e⟩ := obind e
      cases e
      obtain ⟨v, a⟩ := nm_val R hi
      exact ⟨v, a, G, F, env, q.1, q.2, R, e2, fun vs H2 F2 R2 E2 q2 => k _ _ _ R2 E2 (.cons a q2)⟩
    · cases e
theorem dq_pairs {K : PySem.W.Frag} {σ : L2.St} {F : Hp} : ∀ {vs : List V} {ds : List PyData}, DqAll K F vs ds → Paired (HV K σ F) vs (ds.map Hd.d)
  | _, [], h => by
    cases h
    exact .nil
  | _, d :: ds, h => by
    cases h with
    | cons h1 h2 => exact .cons h1 (dq_pairs h2)
theorem paired_app {α β : Type} {A : α → β → Prop} : ∀ {l l' : List α} {m m' : List β}, Paired A l m → Paired A l' m' → Paired A (l ++ l') (m ++ m')
  | _, _, _, _, .nil, h => h
  | _, _, _, _, .cons a t, h => .cons a (paired_app t h)
theorem v_star {a : IE} {r : IL} {z : Expr} {p : Pos} {zs : List Expr} (ha : PE X z (rE X.K Γ C.cons a)) (hr : PA X zs (rV X.K Γ C.cons r)) : PA X (.Starred z p :: zs) (rV X.K Γ C.cons (.star a r)) :=
  pa_mono (StX.pa_star ha hr) fun σ H Q ⟨G, F, env, hs, env', R, e, k⟩ => by
    obtain ⟨q, e1, e⟩ := obind e
    refine ⟨G, F, env, q.1, q.2, R, e1, fun v H1 F1 R1 E1 q1 => ?_⟩
    obtain ⟨F2, R2, E2, q2⟩ := R.settle R1 E1 q1
    split at e
    · rename_i ds ed
      rw [ed] at q2
      obtain ⟨w, e2, e⟩ := obind e
      cases e
      cases q2 with
      | lst h1 h2 => exact ⟨_, _, rfl, .inr (rdlMono R2.sub h1).sql, G, F2, q.2, w.1, w.2, R2, e2, fun vs H3 F3 R3 E3 q3 => k _ _ _ R3 (E2.trans E3) (paired_app (dq_pairs (dpAllMono E3.mono _ h2)) q3)⟩
    · rename_i ds ed
      rw [ed] at q2
      obtain ⟨w, e2, e⟩ := obind e
      cases e
      cases q2 with
      | tup h1 h2 => exact ⟨_, _, rfl, .inl (sqtMono R2.sub h1), G, F2, q.2, w.1, w.2, R2, e2, fun vs H3 F3 R3 E3 q3 => k _ _ _ R3 (E2.trans E3) (paired_app (dq_pairs (dpAllMono E3.mono _ h2)) q3)⟩
    · cases e
theorem f_tup {es : IL} {xs : List Expr} {j : Nat} {pos : Pos} (h : PA X xs (rV X.K Γ C.cons es)) : PE X (.Tuple xs j pos) (rE X.K Γ C.cons (.tup es)) :=
  pe_mono (pe_tup h) fun σ H Q ⟨G, F, env, r, env', R, e, k⟩ => by
    obtain ⟨p, e1, e⟩ := obind e
    obtain ⟨ds, e2, e⟩ := obind e
    split at e
    · rename_i hz
      cases e
      refine ⟨G, F, env, p.1, p.2, R, e1, fun vs H1 F1 R1 E1 q1 => ?_⟩
      have q2 := dqAll_of q1 e2
      exact ⟨by rw [dpAll_len q2]; exact hz, fun a ha => (made_of E1 R1 k).t R1.sub q2 ha⟩
    · cases e
theorem f_lst {es : IL} {xs : List Expr} {pos : Pos} (h : PA X xs (rV X.K Γ C.cons es)) : PE X (.List xs pos) (rE X.K Γ C.cons (.lst es)) :=
  pe_mono (pe_lst h) fun σ H Q ⟨G, F, env, r, env', R, e, k⟩ => by
    obtain ⟨p, e1, e⟩ := obind e
    obtain ⟨ds, e2, e⟩ := obind e
    split at e
    · rename_i hz
      cases e
      refine ⟨G, F, env, p.1, p.2, R, e1, fun vs H1 F1 R1 E1 q1 => ?_⟩
      have q2 := dqAll_of q1 e2
      exact ⟨by rw [dpAll_len q2]; exact hz, fun a ha => (made_of E1 R1 k).o R1.sub q2 ha⟩
    · cases e
theorem fnR {f : BF} {es : IL} {σ : L2.St} {H : Hp} {Q : VK} (h : rE X.K Γ C.cons (.fn f es) σ H Q) : tCB (qFn X.K f) (rL X.K Γ C.cons es) σ H Q := by
  obtain ⟨G, F, env, r, env', R, e, k⟩ := h
  obtain ⟨p, e1, e⟩ := obind e
  obtain ⟨ds, e2, e⟩ := obind e
  obtain ⟨z, e3, e⟩ := obind e
  cases e
  exact ⟨G, F, env, p.1, p.2, R, e1, fun vs H1 F1 R1 E1 q1 => ⟨F1, _, _, R1.sub, opdAll_of R1 q1 e2, e3, made_of E1 R1 k⟩⟩
theorem f_fn (hC : COk X C Γ n) (hS : SOk X S) {f : BF} {es : IL} {z : Expr} {zs : List Expr} {x : Str} {p pos : Pos} (hx : x = f.nm) (hg : glS S x = true) (h : PA X (z :: zs) (rL X.K Γ C.cons es)) (hp : (z :: zs).all plainA = true) :
    PE X (.Call (.Name x p) (z :: zs) [] pos) (rE X.K Γ C.cons (.fn f es)) := by
  subst hx
  have hg' := gl_of hS hg
  rw [List.all_cons, Bool.and_eq_true] at hp
  have st := plain_star hp.1 zs X.env
  have an := plain_any hp.2 pos X.env
  have hf := fn_ok hC.calm hC.guards hC.units f
  cases f with
  | len => exact pe_mono (pe_callB hf hg' (blt_of hC (by decide +kernel)) (by decide +kernel) h (by decide +kernel) (by decide +kernel) st an) fun _ _ _ => fnR
  | abs => exact pe_mono (pe_callB hf hg' (blt_of hC (by decide +kernel)) (by decide +kernel) h (by decide +kernel) (by decide +kernel) st an) fun _ _ _ => fnR
  | max2 => exact pe_mono (pe_callB hf hg' (blt_of hC (by decide +kernel)) (by decide +kernel) h (by decide +kernel) (by decide +kernel) st an) fun _ _ _ => fnR
  | min2 => exact pe_mono (pe_callB hf hg' (blt_of hC (by decide +kernel)) (by decide +kernel) h (by decide +kernel) (by decide +kernel) st an) fun _ _ _ => fnR
  | sum => exact pe_mono (pe_callB hf hg' (blt_of hC (by decide +kernel)) (by decide +kernel) h (by decide +kernel) (by decide +kernel) st an) fun _ _ _ => fnR
  | all => exact pe_mono (pe_callB hf hg' (blt_of hC (by decide +kernel)) (by decide +kernel) h (by decide +kernel) (by decide +kernel) st an) fun _ _ _ => fnR
  | any => exact pe_mono (pe_callB hf hg' (blt_of hC (by decide +kernel)) (by decide +kernel) h (by decide +kernel) (by decide +kernel) st an) fun _ _ _ => fnR
  | repr => exact pe_mono (pe_callB hf hg' (blt_of hC (by decide +kernel)) (by decide +kernel) h (by decide +kernel) (by decide +kernel) st an) fun _ _ _ => fnR
  | sorted => exact pe_mono (pe_callB hf hg' (blt_of hC (by decide +kernel)) (by decide +kernel) h (by decide +kernel) (by decide +kernel) st an) fun _ _ _ => fnR
  | int => exact pe_mono (pe_callTy hf hg' (blt_of hC (by decide +kernel)) (by decide +kernel) h (by decide +kernel) (by decide +kernel) st an) fun _ _ _ => fnR
  | tuple => exact pe_mono (pe_callTy hf hg' (blt_of hC (by decide +kernel)) (by decide +kernel) h (by decide +kernel) (by decide +kernel) st an) fun _ _ _ => fnR
  | list => exact pe_mono (pe_callTy hf hg' (blt_of hC (by decide +kernel)) (by decide +kernel) h (by decide +kernel) (by decide +kernel) st an) fun _ _ _ => fnR
  | str => exact pe_mono (pe_callTy hf hg' (blt_of hC (by decide +kernel)) (by decide +kernel) h (by decide +kernel) (by decide +kernel) st an) fun _ _ _ => fnR
end
end PF

/-! PF8: isinstance, calls, methods, targets, what is walked, comprehensions, tests. -/
namespace PF
open PySem PySem.Spec PyProof.Rows L2
section
variable {X : Cx} {C : Cfg} {S : Sc} {Γ : Tab} {n : Nat}
/-! ### isinstance -/
theorem ty_of {K : PySem.W.Frag} {F H : Hp} {x : V} {d : PyData} (s : Same F H) (h : Opd K F H x d) : TyX K H x (.type (tyD d)) := by
  cases d with
  | none =>
    cases opd_none h
    exact .base .non
  | bool b =>
    cases opd_bool h
    exact .base (.bl _)
  | int i =>
    cases opd_int h
    exact .base (.int _)
  | str z =>
    cases opd_str h
    exact .base (.str _)
  | list ds =>
    obtain ⟨p, vs, rfl, h1, _⟩ := opd_list s h
    rcases h1 with (h1 | ⟨o, h1⟩) | ⟨its, m, h1, _⟩
    · exact .base (.lst h1)
    · exact .base (.frz h1)
    · exact .kList h1 rfl
  | tuple ds =>
    obtain ⟨p, vs, rfl, h1, _⟩ := opd_tup s h
    rcases h1 with (h1 | ⟨o, h1⟩) | ⟨o, its, m, h1, h2, _⟩
    · exact .base (.tup h1)
    · exact .fTuple h1
    · exact .kTuple h1 h2
  | dict kvs => exact (opd_dict h).elim
def tyNames : List String := ["int", "bool", "str", "list", "tuple", "dict"]
theorem kit_isi (d : PyData) {t : String} (ht : tyNames.contains t = true) : kitB (tyD d) t = some (isiD d t) := by
  have h : t = "int" ∨ t = "bool" ∨ t = "str" ∨ t = "list" ∨ t = "tuple" ∨ t = "dict" := by
    simp [tyNames] at ht
    exact ht
  rcases h with rfl | rfl | rfl | rfl | rfl | rfl <;> cases d <;> rfl
theorem boot_ty {t : String} (ht : tyNames.contains t = true) : bootBuiltins (Str.ofString t) = some (.type t) ∧ blts.contains (Str.ofString t) = true ∧ Str.ofString t ≠ "__name__" ∧ (Str.ofString t == ("__debug__" : Str)) = false := by
  have h : t = "int" ∨ t = "bool" ∨ t = "str" ∨ t = "list" ∨ t = "tuple" ∨ t = "dict" := by
    simp [tyNames] at ht
    exact ht
  rcases h with rfl | rfl | rfl | rfl | rfl | rfl <;> exact ⟨by decide +kernel, by decide +kernel, by decide +kernel, by decide +kernel⟩
theorem f_isi (hC : COk X C Γ n) (hS : SOk X S) {a : IE} {t : String} {x y : Str} {z : Expr} {p p2 pos : Pos} (hx : x = "isinstance") (hg : glS S x = true) (ha : PE X z (rH X.K Γ C.cons a)) (pz : plainA z = true) (hy : y = Str.ofString t) (hg2 : glS S y = true) (ht : tyNames.contains t = true) :
    PE X (.Call (.Name x p) [z, .Name y p2] [] pos) (rE X.K Γ C.cons (.isi a t)) := by
  subst hx hy
  obtain ⟨b1, b2, b3, b4⟩ := boot_ty ht
  have pt : PE X (.Name (Str.ofString t) p2) (tC (.ty t)) := pe_bltn (gl_of hS hg2) (blt_of hC b2) b1 rfl b3 b4
  refine pe_mono (pe_callB call_isi (gl_of hS hg) (blt_of hC (by decide +kernel)) (by decide +kernel) (pa_cons ha (pa_cons pt pa_nil (by rfl)) (plain_star pz _ _)) (by decide +kernel) (by decide +kernel) (plain_star pz _ _) rfl) fun σ H Q ⟨G, F, env, r, env', R, e, k⟩ => ?_
  obtain ⟨q, e1, e⟩ := obind e
  obtain ⟨d, e2, e⟩ := obind e
  obtain ⟨w, e3, e⟩ := obind e
  cases e
  cases e3
  exact ⟨G, F, env, q.1, q.2, R, e1, fun v H1 F1 R1 E1 q1 => ⟨v, .ty t, _, _, _, rfl, .ty t, ty_of R1.sub (q1.opd R1 e2), kit_ty (kit_isi d ht), k _ _ _ R1 E1 (.bl _)⟩⟩
/-! ### the call of a def -/
theorem callR {f : Nat} {es : IL} {σ : L2.St} {H : Hp} {Q : VK} (h : rE X.K Γ C.cons (.call f es) σ H Q) : tCG X.K (Γ f) (rV X.K Γ C.cons es) σ H Q := by
  obtain ⟨G, F, env, r, env', R, e, k⟩ := h
  obtain ⟨p, e1, e⟩ := obind e
  obtain ⟨as, e2, e⟩ := obind e
  obtain ⟨z, e3, e⟩ := obind e
  cases e
  refine ⟨G, F, env, p.1, p.2, R, e1, fun vs H1 F1 R1 E1 q1 => ?_⟩
  obtain ⟨i1, _, i3, i4, i5⟩ := args_of R1 q1 e2
  refine ⟨F1, as, z.1, z.2, R1.sub, i1, i3, e3, fun v H2 F2 P => ?_⟩
  have go : Rel X.K G σ H2 F2 (putA p.2 p.1 z.2) ∧ Ext σ p.2 H1 F1 H2 F2 (putA p.2 p.1 z.2) := by
    cases hl : lentS p.1 with
    | none =>
      have e0 : putA p.2 p.1 z.2 = p.2 := by
        unfold putA
        rw [hl]
      rw [e0]
      exact R1.grow P.mono P.sub (fun b o h => P.keep b o h fun y => by
        obtain ⟨i, _, _, a, _⟩ := i4 b y
        rw [hl] at a
        cases a) P.fresh
    | some i =>
      obtain ⟨a, s, ds, a1, a2, a3, a4⟩ := i5 i hl
      obtain ⟨fa, ws, ha, qa⟩ := P.lent a a4
      have kp : ∀ b o, H1 b = some o → b ≠ a → H2 b = some o := fun b o h nb => P.keep b o h fun y => by
        obtain ⟨j, _, _, b1, _, _, b4⟩ := i4 b y
        rw [hl] at b1
        cases b1
        rw [a3] at b4
        cases b4
        exact nb rfl
      cases s with
      | v d => cases a2
      | o es =>
        have e0 : putA p.2 p.1 z.2 = p.2.set i (some (.o z.2)) := by
          unfold putA
          rw [hl]
          simp only [a1]
        rw [e0]
        exact R1.lent a1 a2 a3 P.mono P.sub kp P.fresh fa ha qa rfl rfl
      | b es =>
        have e0 : putA p.2 p.1 z.2 = p.2.set i (some (.b z.2)) := by
          unfold putA
          rw [hl]
          simp only [a1]
        rw [e0]
        exact R1.lent a1 a2 a3 P.mono P.sub kp P.fresh fa ha qa rfl rfl
  exact k v H2 F2 go.1 (E1.trans go.2) (P.res.back E1.live)
theorem f_call (hC : COk X C Γ n) (hS : SOk X S) {f : Nat} {es : IL} {x : Str} {zs : List Expr} {p pos : Pos} (hf : C.fns[f]? = some x) (hg : glS S x = true) (hx : okN x = true) (h : PA X zs (rV X.K Γ C.cons es)) (hp : zs.all plainA = true)
    (h0 : zs = [] → es = .nil) : PE X (.Call (.Name x p) zs [] pos) (rE X.K Γ C.cons (.call f es)) := by
  obtain ⟨a, hm, F⟩ := hC.fns f x hf
  cases zs with
  | nil =>
    cases h0 rfl
    refine pe_mono (pe_callG0 hC F (gl_of hS hg) hm hx) fun σ H Q h => ?_
    obtain ⟨G, F, env, hs, env', R, e1, k⟩ := callR h
    cases e1
    exact k [] H F R Ext.refl .nil
  | cons z zs => exact pe_mono (pe_callG hC F (gl_of hS hg) hm hx h hp) fun σ H Q h => callR h
/-! ### a method that changes a name's list -/
def qMt (K : PySem.W.Frag) (m : MT) : V → List V → Hp → VK → Prop := fun x ws H Q => ∃ F p vs xs ds d ys, Same F H ∧ x = .ref p ∧ H p = some (.lst vs) ∧ DqAll K F vs xs ∧ DqAll K F ws ds ∧ mtD m xs ds = some (d, ys) ∧ ∀ w vs', Dq K F w d → DqAll K F vs' ys → Q w (upd H p (.lst vs'))
theorem mt_rule (m : MT) : MtR X m.id (qMt X.K m) := by
  intro pins s σ H x xs v us Q I rx r h
  obtain ⟨F, p, vs, ys, ds, d, zs, sm, rfl, hp, q1, q2, e, k⟩ := h
  exact mt_ok rfl I rx r hp q1 q2 e sm k
theorem mutAt_of {env : En} {i : Nat} (h : mutAt env i = true) : ∃ s ds, env.at i = some s ∧ s.m = some ds := by
  unfold mutAt at h
  split at h
  · exact ⟨_, _, by assumption, rfl⟩
  · exact ⟨_, _, by assumption, rfl⟩
  · cases h
theorem mtTail {m : MT} {i : Nat} {es : IL} {σ : L2.St} {H : Hp} {Q : VK} (h : rE X.K Γ C.cons (.mt m i es) σ H Q) :
    ∃ p, σ[i]? = some (some (.ref p)) ∧ (∃ vs, H p = some (.lst vs)) ∧ rV X.K Γ C.cons es σ H fun ws H1 => qMt X.K m (.ref p) ws H1 Q := by
  obtain ⟨G, F, env, r, env', R, e, k⟩ := h
  have e : (if mutAt env i = true then (runV Γ C.cons es env).bind fun p => (getD p.1).bind fun ds => match p.2.at i with
      | some (.o xs) => (mtD m xs ds).bind fun r => some (Sl.v r.1, p.2.set i (some (.o r.2)))
      | some (.b xs) => (mtD m xs ds).bind fun r => some (Sl.v r.1, p.2.set i (some (.b r.2)))
      | _ => none
    else none) = some (r, env') := e
  split at e
  · rename_i hm
    obtain ⟨s0, ds0, a0, b0⟩ := mutAt_of hm
    obtain ⟨p, vs, a, f, hp, q, _⟩ := R.mu i s0 ds0 a0 b0
    refine ⟨p, a, ⟨vs, hp⟩, ?_⟩
    obtain ⟨q, e1, e⟩ := obind e
    obtain ⟨ds, e2, e⟩ := obind e
    refine ⟨G, F, env, q.1, q.2, R, e1, fun ws H1 F1 R1 E1 q1 => ?_⟩
    have q2 := dqAll_of q1 e2
    have key : ∀ (s s' : Sl) (xs ys : List PyData) (d : PyData), q.2.at i = some s → s.m = some xs → mtD m xs ds = some (d, ys) → s'.m = some ys → isB s' = isB s → r = .v d → env' = q.2.set i (some s') → qMt X.K m (.ref p) ws H1 Q := fun s s' xs ys d a1 a2 a3 a4 a5 a6 a7 => by
      subst a6 a7
      obtain ⟨p2, vs2, b1, b2, b3, b4, _⟩ := R1.mu i s xs a1 a2
      rw [a] at b1
      cases b1
      refine ⟨F1, p, vs2, xs, ds, d, ys, R1.sub, rfl, b3, b4, q2, a3, fun w vs' qw qv => ?_⟩
      obtain ⟨R2, E2⟩ := R1.change (s' := s') a1 a2 a b3 a4 a5 qv
      exact k w _ F1 R2 (E1.trans E2) qw
    split at e
    · rename_i xs ea
      obtain ⟨z, e3, e⟩ := obind e
      cases e
      exact key _ (.o z.2) xs z.2 z.1 ea rfl e3 rfl rfl rfl rfl
    · rename_i xs ea
      obtain ⟨z, e3, e⟩ := obind e
      cases e
      exact key _ (.b z.2) xs z.2 z.1 ea rfl e3 rfl rfl rfl rfl
    · cases e
  · cases e
theorem f_mt (hC : COk X C Γ n) (hS : SOk X S) {m : MT} {i : Nat} {es : IL} {x a : Str} {zs : List Expr} {p ap cp : Pos} (hx : nmS C S i x = true) (ha : a = m.nm) (hl : (ap.endLine == cp.line) = true) (h : PA X zs (rV X.K Γ C.cons es)) (hp : zs.all plainA = true) (hz : zs.length ≤ 2)
    (h0 : zs = [] → es = .nil) : PE X (.Call (.Attribute (.Name x p) a ap) zs [] cp) (rE X.K Γ C.cons (.mt m i es)) := by
  subst ha
  have pn := pe_nm (p := p) hC hS hx
  cases zs with
  | nil =>
    cases h0 rfl
    cases m with
    | pop =>
      refine pe_mono (pe_bm0 PySem.F.plainAttrs_list PySem.F.slot_list_pop PySem.F.type_list_pop (mt_rule .pop) pn rfl hl) fun σ H Q h => ?_
      obtain ⟨p, a, ⟨vs, hv⟩, G, F, env, hs, env', R, e1, k⟩ := mtTail h
      cases e1
      exact ⟨_, a, .inl ⟨rfl, vs, .inl (.inl hv)⟩, k [] H F R Ext.refl .nil⟩
    | append =>
      exact ⟨fun pins s σ H Q I h => by
        obtain ⟨p, a, ⟨vs, hv⟩, G, F, env, hs, env', R, e1, k⟩ := mtTail h
        cases e1
        obtain ⟨_, _, _, _, _, _, _, _, _, _, _, q, e, _⟩ := k [] H F R Ext.refl .nil
        cases q
        cases e⟩
    | insert =>
      exact ⟨fun pins s σ H Q I h => by
        obtain ⟨p, a, ⟨vs, hv⟩, G, F, env, hs, env', R, e1, k⟩ := mtTail h
        cases e1
        obtain ⟨_, _, _, _, _, _, _, _, _, _, _, q, e, _⟩ := k [] H F R Ext.refl .nil
        cases q
        cases e⟩
    | extend =>
      exact ⟨fun pins s σ H Q I h => by
        obtain ⟨p, a, ⟨vs, hv⟩, G, F, env, hs, env', R, e1, k⟩ := mtTail h
        cases e1
        obtain ⟨_, _, _, _, _, _, _, _, _, _, _, q, e, _⟩ := k [] H F R Ext.refl .nil
        cases q
        cases e⟩
  | cons z zs =>
    have all := plain_all hp cp X.env
    rw [List.all_cons, Bool.and_eq_true] at hp
    have st := plain_star hp.1 zs X.env
    have an := plain_any hp.2 cp X.env
    have few : ((backTo cp (starEach (z :: zs) X.env)).all (fun x => !x.1) && (backToKw cp (keywordEach [] X.env)).all (fun x => x.1.isSome)
      && decide ((z :: zs).length + ([] : List Keyword).length + (if ([] : List Keyword).isEmpty then 0 else 1) < 30)) = true := by
      rw [all]
      show decide ((z :: zs).length + 0 + 0 < 30) = true
      exact decide_eq_true (by omega)
    have fin : ∀ σ H Q, rE X.K Γ C.cons (.mt m i es) σ H Q → tBM X.K "list" (qMt X.K m) (tVar i) (rV X.K Γ C.cons es) σ H Q := fun σ H Q h => by
      obtain ⟨p, a, ⟨vs, hv⟩, k⟩ := mtTail h
      exact ⟨_, a, .inl ⟨rfl, vs, .inl (.inl hv)⟩, k⟩
    cases m with
    | append => exact pe_mono (pe_bm PySem.F.plainAttrs_list PySem.F.slot_list_append PySem.F.type_list_append (mt_rule .append) pn h rfl few hl st an) fin
    | pop => exact pe_mono (pe_bm PySem.F.plainAttrs_list PySem.F.slot_list_pop PySem.F.type_list_pop (mt_rule .pop) pn h rfl few hl st an) fin
    | insert => exact pe_mono (pe_bm PySem.F.plainAttrs_list PySem.F.slot_list_insert PySem.F.type_list_insert (mt_rule .insert) pn h rfl few hl st an) fin
    | extend => exact pe_mono (pe_bm PySem.F.plainAttrs_list PySem.F.slot_list_extend PySem.F.type_list_extend (mt_rule .extend) pn h rfl few hl st an) fin
/-! ### targets -/
def lenGs : IGs → Nat
  | .nil => 0
  | .cons _ r => lenGs r + 1
theorem gs_len : ∀ (gs : IGs) (es : List Expr), chkGs C S gs es = true → ∀ env, (assignEach es env).length = lenGs gs ∧ (assignEach es env).findIdx? (·.1) = none
  | .nil, es, h, env => by
    cases es with
    | nil => exact ⟨rfl, rfl⟩
    | cons _ _ => exact absurd h Bool.false_ne_true
  | .cons g r, es, h, env => by
    cases es with
    | nil => exact absurd h Bool.false_ne_true
    | cons z zs =>
      have h : (chkG C S g z && notStar z && chkGs C S r zs) = true := h
      rw [Bool.and_eq_true, Bool.and_eq_true] at h
      obtain ⟨h1, h2⟩ := gs_len r zs h.2 env
      have e : assignEach (z :: zs) env = (false, assign z env) :: assignEach zs env := by
        cases z <;> first | exact absurd h.1.2 Bool.false_ne_true | rfl
      rw [e]
      refine ⟨congrArg (· + 1) h1, ?_⟩
      rw [List.findIdx?_cons, h2]
      rfl
theorem runGs_len : ∀ (gs : IGs) (ds : List PyData) (env env' : En), runGs gs ds env = some env' → ds.length = lenGs gs
  | .nil, [], _, _, _ => rfl
  | .nil, _ :: _, _, _, h => by cases h
  | .cons g r, [], _, _, h => by cases h
  | .cons g r, d :: ds, env, env', h => by
    obtain ⟨e1, _, h2⟩ := obind h
    exact congrArg (· + 1) (runGs_len r ds e1 env' h2)
mutual
theorem sG (hC : COk X C Γ n) (hS : SOk X S) : ∀ (g : IG) (z : Expr), chkG C S g z = true → PG X z (rG X.K g)
  | .n i, z, h => by
    cases z with
    | Name x p =>
      have h : tgS C S i x = true := h
      unfold tgS at h
      rw [Bool.and_eq_true] at h
      obtain ⟨h1, h2⟩ := loc_of hS h.2
      refine pg_mono (pg_name hC.nd (by rw [hC.N]; exact of_decide_eq_true h.1) h1 h2) fun v σ H Q ⟨G, F, env, d, env', R, q, e, k⟩ => ?_
      exact k _ (R.setv e q) (List.length_set ..) (fun j hj => by
        rw [st_get, if_neg]
        intro z
        exact hj (by rw [← z]; exact List.mem_cons_self)) fun b z => setv_own R.len e b z
    | _ => exact absurd h Bool.false_ne_true
  | .t gs, z, h => by
    cases z with
    | Tuple es j p =>
      have h : chkGs C S gs es = true := h
      have hp := gs_len gs es h X.env
      refine pg_mono (pg_tup hC.calm (sGs hC hS gs es h) hp.1 hp.2) fun v σ H Q ⟨G, F, env, d, env', R, q, e, k⟩ => ?_
      cases d <;> first | cases e | skip
      cases q with
      | tup h1 h2 =>
        refine ⟨_, _, rfl, sqtMono R.sub h1, ?_, G, F, env, _, env', R, h2, e, fun σ' R' l1 l2 l3 => k σ' R' l1 l2 l3⟩
        rw [dpAll_len h2, runGs_len gs _ _ _ e]
    | _ => exact absurd h Bool.false_ne_true
theorem sGs (hC : COk X C Γ n) (hS : SOk X S) : ∀ (gs : IGs) (es : List Expr), chkGs C S gs es = true → PGs X es (rGs X.K gs)
  | .nil, es, h => by
    cases es with
    | nil =>
      refine pgs_mono pgs_nil fun vs σ H Q ⟨G, F, env, ds, env', R, q, e, k⟩ => ?_
      cases ds with
      | nil =>
        cases e
        cases q
        exact ⟨rfl, k σ R rfl (fun _ _ => rfl) fun _ z => z⟩
      | cons _ _ => cases e
    | cons _ _ => exact absurd h Bool.false_ne_true
  | .cons g r, es, h => by
    cases es with
    | nil => exact absurd h Bool.false_ne_true
    | cons z zs =>
      have h : (chkG C S g z && notStar z && chkGs C S r zs) = true := h
      rw [Bool.and_eq_true, Bool.and_eq_true] at h
      have p1 := sG hC hS g z h.1.1
      have p2 := sGs hC hS r zs h.2
      refine pgs_mono (pgs_cons p1 p2 (by cases z <;> first | exact absurd h.1.2 Bool.false_ne_true | rfl)) fun vs σ H Q ⟨G, F, env, ds, env', R, q, e, k⟩ => ?_
      cases ds with
      | nil => cases e
      | cons d ds =>
        obtain ⟨env1, e1, e2⟩ := obind e
        cases q with
        | cons q1 q2 =>
          refine ⟨_, _, rfl, G, F, env, d, env1, R, q1, e1, fun σ1 R1 l1 l2 l3 => ⟨G, F, env1, ds, env', R1, q2, e2, fun σ2 R2 m1 m2 m3 => ?_⟩⟩
          refine k σ2 R2 (m1.trans l1) (fun j hj => ?_) fun b z => l3 b (m3 b z)
          have hj : j ∉ slotsG g ++ slotsGs r := hj
          rw [List.mem_append, not_or] at hj
          rw [m2 j hj.2, l2 j hj.1]
end
end
end PF

/-! PF9: what is walked, comprehensions, tests; the soundness of expressions. -/
namespace PF
open PySem PySem.Spec PyProof.Rows L2
section
variable {X : Cx} {C : Cfg} {S : Sc} {Γ : Tab} {n : Nat} {tg : Expr}
theorem oite {α : Type} {c : Prop} [Decidable c] {a : Option α} {y : α} (h : (if c then a else none) = some y) : c ∧ a = some y := by
  by_cases hc : c
  · rw [if_pos hc] at h
    exact ⟨hc, h⟩
  · rw [if_neg hc] at h
    cases h
/-! ### what is walked -/
theorem i_e {a : IE} {z : Expr} (ha : PE X z (rE X.K Γ C.cons a)) : PI X tg z (rI X.K Γ C.cons (.e a)) := by
  refine ⟨fun pins s σ H Q I ⟨G, F, env, ds, env', R, e, k⟩ => ?_⟩
  obtain ⟨q, e1, e⟩ := obind e
  split at e
  · rename_i xs ed
    cases e
    refine (pi_list ha).run pins s σ H Q I ⟨G, F, env, q.1, q.2, R, e1, fun v H1 F1 R1 E1 q1 => ?_⟩
    obtain ⟨F2, R2, E2, q2⟩ := R.settle R1 E1 q1
    rw [ed] at q2
    cases q2 with
    | lst h1 h2 => exact ⟨_, rfl, ⟨_, (rdlMono R2.sub h1).sql⟩, k _ H1 F2 R2 E2 (walkD_list h1 h2)⟩
  · rename_i xs ed
    cases e
    refine (pi_tup ha).run pins s σ H Q I ⟨G, F, env, q.1, q.2, R, e1, fun v H1 F1 R1 E1 q1 => ?_⟩
    obtain ⟨F2, R2, E2, q2⟩ := R.settle R1 E1 q1
    rw [ed] at q2
    cases q2 with
    | tup h1 h2 => exact ⟨_, rfl, ⟨_, sqtMono R2.sub h1⟩, k _ H1 F2 R2 E2 (walkD_tup h1 h2)⟩
  · cases e
theorem i_r1 (hC : COk X C Γ n) (hS : SOk X S) {a : IE} {z : Expr} {x : Str} {p pos : Pos} (hx : x = "range") (hg : glS S x = true) (ha : PE X z (rH X.K Γ C.cons a)) (pz : plainA z = true) : PI X tg (.Call (.Name x p) [z] [] pos) (rI X.K Γ C.cons (.r1 a)) := by
  subst hx
  refine pi_mono (pi_range1 (gl_of hS hg) (blt_of hC (by decide +kernel)) (pa_cons ha pa_nil (plain_star pz _ _)) (plain_star pz _ _)) fun σ H Q ⟨G, F, env, ds, env', R, e, k⟩ => ?_
  obtain ⟨q, e1, e⟩ := obind e
  obtain ⟨d, e2, e⟩ := obind e
  cases d <;> first | cases e | skip
  refine ⟨G, F, env, q.1, q.2, R, e1, fun v H1 F1 R1 E1 q1 => ?_⟩
  cases opd_int (q1.opd R1 e2)
  simp only at e
  split at e
  · rename_i hj
    cases e
    exact ⟨_, rfl, hj.1, hj.2, k _ H1 F1 R1 E1 (walkD_range 0 _)⟩
  · cases e
theorem i_r2 (hC : COk X C Γ n) (hS : SOk X S) {a b : IE} {z w : Expr} {x : Str} {p pos : Pos} (hx : x = "range") (hg : glS S x = true) (ha : PE X z (rH X.K Γ C.cons a)) (pz : plainA z = true) (hb : PE X w (rH X.K Γ C.cons b)) (pw : plainA w = true) :
    PI X tg (.Call (.Name x p) [z, w] [] pos) (rI X.K Γ C.cons (.r2 a b)) := by
  subst hx
  have s2 := plain_star pw [] X.env
  have s1 := plain_star pz [w] X.env
  refine pi_mono (pi_range2 (gl_of hS hg) (blt_of hC (by decide +kernel)) (pa_cons ha (pa_cons hb pa_nil s2) s1) (by rw [s1, s2]; rfl) (by rw [s2]; rfl)) fun σ H Q ⟨G, F, env, ds, env', R, e, k⟩ => ?_
  obtain ⟨q, e1, e⟩ := obind e
  obtain ⟨q', e2, e⟩ := obind e
  obtain ⟨d, e3, e⟩ := obind e
  obtain ⟨d', e4, e⟩ := obind e
  refine two_ops R e1 e2 fun v u H2 F2 R2 E2 q1 q2 => ?_
  cases d <;> first | cases e | skip
  cases d' <;> first | cases e | skip
  cases opd_int (q1.opd R2 e3)
  cases opd_int (q2.opd R2 e4)
  simp only at e
  split at e
  · rename_i hj
    cases e
    exact ⟨_, _, rfl, hj, k _ H2 F2 R2 E2 (walkD_range _ _)⟩
  · cases e
theorem walk_zipT {K : PySem.W.Frag} {a b : Addr} {xs ys : List V} {m : Nat} (hn : m = min xs.length ys.length) : Walk (RZ.ItzT K a b) m (fun H => SqT K H a xs ∧ SqT K H b ys) (YPair (fun i => xs[i]?) (fun i => ys[i]?)) := by
  subst hn
  refine ⟨fun i H hi q => ?_, fun H q => ⟨xs, ys, q.1, q.2, by omega⟩, fun i H v H' hi q y => ?_⟩
  · exact ⟨xs, ys, xs[i]'(by omega), ys[i]'(by omega), q.1, q.2, List.getElem?_eq_getElem (by omega), List.getElem?_eq_getElem (by omega)⟩
  · obtain ⟨T, x, z, h1, h2, h3, h4, h5⟩ := y
    exact ⟨T, x, z, h1, h2, h3, h4 xs q.1, h5 ys q.2⟩
theorem walkD_zipT {K : PySem.W.Frag} {F : Hp} {p p2 : Addr} {vs ws : List V} {ds es : List PyData} (h : SqT K F p vs) (q : DqAll K F vs ds) (h2 : SqT K F p2 ws) (q2 : DqAll K F ws es) : WalkD K F (RZ.ItzT K p p2) (zipD ds es) := by
  refine ⟨fun H => SqT K H p vs ∧ SqT K H p2 ws, YPair (fun i => vs[i]?) (fun i => ws[i]?), ?_, fun H s => ⟨sqtMono s h, sqtMono s h2⟩, fun i H x H' F1 hi y m s => ?_⟩
  · exact walk_zipT (by rw [zipD_len, dpAll_len q, dpAll_len q2])
  · obtain ⟨T, a, b, e1, e2, e3, e4, e5⟩ := y
    obtain ⟨da, g1, k1⟩ := dpAll_get' q e4
    obtain ⟨db, g2, k2⟩ := dpAll_get' q2 e5
    obtain ⟨F2, c1, c2, c3, c4, c5⟩ := pairStep e1 e2 e3 s (dpMono m _ k1) (dpMono m _ k2)
    exact ⟨F2, c1, c2, c3, c4, _, zipD_get g1 g2, c5⟩
theorem i_zip (hC : COk X C Γ n) (hS : SOk X S) {a b : IE} {z w : Expr} {x : Str} {p pos : Pos} (ht : isTupA tg = true) (hx : x = "zip") (hg : glS S x = true) (ha : PE X z (rE X.K Γ C.cons a)) (pz : plainA z = true) (hb : PE X w (rE X.K Γ C.cons b)) (pw : plainA w = true) :
    PI X tg (.Call (.Name x p) [z, w] [] pos) (rI X.K Γ C.cons (.zip a b)) := by
  subst hx
  have s2 := plain_star pw [] X.env
  have s1 := plain_star pz [w] X.env
  cases tg with
  | Tuple elts kk tp =>
    refine pi_mono (RZ.pi_zipA (gl_of hS hg) (blt_of hC (by decide +kernel)) (pa_cons ha (pa_cons hb pa_nil s2) s1) s1 (by rw [s2]; rfl)) fun σ H Q ⟨G, F, env, ds, env', R, e, k⟩ => ?_
    obtain ⟨q, e1, e⟩ := obind e
    obtain ⟨q', e2, e⟩ := obind e
    refine ⟨G, F, env, q.1, q.2, R, e1, fun v H1 F1 R1 E1 q1 => ?_⟩
    obtain ⟨F2, R2, E2, k1⟩ := R.settle R1 E1 q1
    refine ⟨G, F2, q.2, q'.1, q'.2, R2, e2, fun u H3 F3 R3 E3 q3 => ?_⟩
    obtain ⟨F4, R4, E4, k2⟩ := R2.settle R3 E3 q3
    have k1' := dpMono E4.mono _ k1
    split at e
    · rename_i xs ys ed ed'
      cases e
      rw [ed] at k1'
      rw [ed'] at k2
      cases k1' with
      | lst h1 h2 =>
        cases k2 with
        | lst h3 h4 => exact ⟨_, _, _, _, rfl, .inl ⟨(rdlMono R4.sub h1).sql, (rdlMono R4.sub h3).sql, k _ H3 F4 R4 (E2.trans E4) (walkD_zipL h1 h2 h3 h4)⟩⟩
    · rename_i xs ys ed ed'
      cases e
      rw [ed] at k1'
      rw [ed'] at k2
      cases k1' with
      | tup h1 h2 =>
        cases k2 with
        | tup h3 h4 => exact ⟨_, _, _, _, rfl, .inr ⟨sqtMono R4.sub h1, sqtMono R4.sub h3, k _ H3 F4 R4 (E2.trans E4) (walkD_zipT h1 h2 h3 h4)⟩⟩
    · cases e
  | _ => exact absurd ht Bool.false_ne_true
theorem i_enum (hC : COk X C Γ n) (hS : SOk X S) {a : IE} {z : Expr} {x : Str} {p pos : Pos} (ht : isTupA tg = true) (hx : x = "enumerate") (hg : glS S x = true) (ha : PE X z (rE X.K Γ C.cons a)) (pz : plainA z = true) :
    PI X tg (.Call (.Name x p) [z] [] pos) (rI X.K Γ C.cons (.enum a)) := by
  subst hx
  have s1 := plain_star pz [] X.env
  cases tg with
  | Tuple elts kk tp =>
    refine pi_mono (pi_enum (gl_of hS hg) (blt_of hC (by decide +kernel)) (pa_cons ha pa_nil s1) s1) fun σ H Q ⟨G, F, env, ds, env', R, e, k⟩ => ?_
    obtain ⟨q, e1, e⟩ := obind e
    refine ⟨G, F, env, q.1, q.2, R, e1, fun v H1 F1 R1 E1 q1 => ?_⟩
    obtain ⟨F2, R2, E2, k1⟩ := R.settle R1 E1 q1
    split at e
    · rename_i xs ed
      cases e
      rw [ed] at k1
      cases k1 with
      | lst h1 h2 => exact ⟨_, _, rfl, (rdlMono R2.sub h1).sql, k _ H1 F2 R2 E2 (walkD_enumL h1 h2)⟩
    · cases e
  | _ => exact absurd ht Bool.false_ne_true
/-! ### comprehensions -/
structure Wx (P : Addr → Prop) (H F H' F' : Hp) : Prop where
  mono : Same F F'
  keep : ∀ b o, H b = some o → ¬ P b → H' b = some o
  live : ∀ b, H b ≠ none → H' b ≠ none
  fresh : ∀ b, F' b ≠ none → F b ≠ none ∨ H b = none ∨ P b
theorem Wx.refl {P : Addr → Prop} {H F : Hp} : Wx P H F H F := ⟨Same.refl _, fun _ _ h _ => h, fun _ h => h, fun _ h => .inl h⟩
theorem Wx.trans {P : Addr → Prop} {H F H1 F1 H2 F2 : Hp} (a : Wx P H F H1 F1) (b : Wx P H1 F1 H2 F2) : Wx P H F H2 F2 := by
  refine ⟨a.mono.trans b.mono, fun c o h n => b.keep c o (a.keep c o h n) n, fun c h => b.live c (a.live c h), fun c h => ?_⟩
  rcases b.fresh c h with z | z | z
  · exact a.fresh c z
  · refine .inr (.inl ?_)
    cases e : H c with
    | none => rfl
    | some o => exact absurd z (a.live c (by rw [e]; simp))
  · exact .inr (.inr z)
theorem Ext.wx {σ : L2.St} {env env' : En} {H F H' F' : Hp} {P : Addr → Prop} (E : Ext σ env H F H' F' env') (h : ∀ b, Own σ env b → P b) : Wx P H F H' F' :=
  ⟨E.mono, fun b o a n => E.keep b o a fun z => n (h b z), E.live, fun b a => (E.fresh b a).imp_right fun z => z.imp_right (h b)⟩
theorem Wx.poke {P : Addr → Prop} {H F H' F' : Hp} {D : Addr} {o : HO} (w : Wx P H F H' F') (hD : H D = none) : Wx P H F (upd H' D o) F' := by
  refine ⟨w.mono, fun b u a n => ?_, fun b a => ?_, w.fresh⟩
  · rw [upd_ne (ne_of_none a hD)]
    exact w.keep b u a n
  · by_cases hb : b = D
    · subst hb
      rw [upd_same]
      simp
    · rw [upd_ne hb]
      exact w.live b a
def lcTurn (Γ : Tab) (cons : List (Str × PyData)) (own : List (Str × Nat)) (g : IG) (c : IT) (e : IE) : PyData → En → Option (Option PyData × En) := fun d en => (runG g d en).bind fun en1 => (runT Γ cons c en1).bind fun t =>
  if t.1 = true then (runE Γ cons e t.2).bind fun y => some (some y.1.d, wipeE y.2 own) else some (none, wipeE t.2 own)
theorem lcR {own : List (Str × Nat)} {g : IG} {it : II} {c : IT} {e : IE} (hsl : ∀ i ∈ slotsG g, i ∈ ixs own) {σ : L2.St} {H : Hp} {Q : VK} (h : rE X.K Γ C.cons (.lc own g it c e) σ H Q) :
    tLc (rI X.K Γ C.cons it) (rG X.K g) (rT X.K Γ C.cons c) (rE X.K Γ C.cons e) (own.map (·.2)) σ H Q := by
  obtain ⟨G, F, env, r, env', R, ev, k⟩ := h
  obtain ⟨p, e1, ev⟩ := obind ev
  obtain ⟨hn, ev⟩ := oite ev
  obtain ⟨q, e2, ev⟩ := obind ev
  obtain ⟨hz, ev⟩ := oite ev
  cases ev
  have e2 : compD (lcTurn Γ C.cons own g c e) p.1 (wipeE p.2 own) = some q := e2
  refine ⟨G, F, env, p.1, p.2, R, e1, fun J H1 F1 R1 E1 wd D hD => ?_⟩
  obtain ⟨Gd, Y, wk, wG, wY⟩ := wd.ex
  show ∃ W : Nat → Nat → Hp → Prop, _
  have hF1 : F1 D = none := R1.sub.free hD
  have hG0 : G.H0 D = none := by
    cases z : G.H0 D with
    | none => rfl
    | some o => exact absurd hD (R1.live D (by rw [z]; simp))
  have noD : ¬ Own σ p.2 D := fun z => (R1.ownAt z).1 hD
  obtain ⟨RW, OW⟩ := R1.wiped own
  refine lc_it wk (fun i H2 => ∃ F2 e2 acc ds2 rest, Rel X.K G (wipe σ (ixs own)) H2 F2 e2 ∧ Wx (Own σ p.2) H1 F1 H2 F2 ∧ (∀ b, Own (wipe σ (ixs own)) e2 b → Own σ p.2 b) ∧ H2 D = some (.lst acc) ∧ F2 D = none ∧ DqAll X.K F2 acc ds2 ∧
    compD (lcTurn Γ C.cons own g c e) (p.1.drop i) e2 = some (rest, q.2) ∧ ds2 ++ rest = q.1) ?_ ?_ ?_ ?_
  · exact ⟨F1, wipeE p.2 own, [], [], q.1, RW.poke hG0 hF1 fun z => noD (OW D z), Wx.refl.poke hD, OW, upd_same, hF1, .nil, e2, rfl⟩
  · rintro i H2 _ ⟨F2, e2, acc, ds2, rest, R2, w2, _⟩
    exact wG H2 (w2.mono.trans R2.sub)
  · rintro i x H2 H3 hi ⟨F2, en, acc, ds2, rest, R2, w2, ow2, hacc, hF2, qacc, hc, happ⟩ y
    obtain ⟨F3, m1, m2, m3, fr, d, hd, qd⟩ := wY i H2 x H3 F2 hi y w2.mono R2.sub
    obtain ⟨R3, E3⟩ := R2.grow m1 m2 m3 fr
    have hdr : p.1.drop i = d :: p.1.drop (i + 1) := by
      rw [List.drop_eq_getElem_cons hi]
      rw [List.getElem?_eq_getElem hi] at hd
      cases hd
      rfl
    rw [hdr] at hc
    obtain ⟨t, ht, hc⟩ := obind hc
    obtain ⟨u, hu, hc⟩ := obind hc
    obtain ⟨en1, eg, ht⟩ := obind ht
    obtain ⟨b, eb, ht⟩ := obind ht
    have noD2 : ¬ Own (wipe σ (ixs own)) en D := fun z => noD (ow2 D z)
    have hD3 : H3 D = some (.lst acc) := m3 D _ hacc
    have hF3 : F3 D = none := by
      cases z : F3 D with
      | none => rfl
      | some o =>
        rcases fr D (by rw [z]; simp) with z2 | z2
        · exact absurd hF2 z2
        · rw [hacc] at z2
          cases z2
    refine ⟨G, F3, en, d, en1, R3, qd, eg, fun σ2 R4 l1 l2 l3 => ?_⟩
    have hwipe : wipe σ2 (ixs own) = wipe σ (ixs own) := by
      rw [wipe_eq l1 fun j hj => l2 j fun z => hj (hsl j z)]
      exact wipe_wipe σ (ixs own)
    refine ⟨hwipe, G, F3, en1, b.1, b.2, R4, eb, fun H5 F5 R5 E5 => ?_⟩
    have ow4 : ∀ a, Own σ2 en1 a → Own σ p.2 a := fun a z => ow2 a (l3 a z)
    have w5 : Wx (Own σ p.2) H1 F1 H5 F5 := (w2.trans (E3.wx ow2)).trans (E5.wx ow4)
    have ow5 : ∀ a, Own σ2 b.2 a → Own σ p.2 a := fun a z => ow4 a (E5.own a z)
    have hD5 : H5 D = some (.lst acc) := E5.keep D _ hD3 fun z => noD (ow4 D z)
    have hF5 : F5 D = none := by
      cases z : F5 D with
      | none => rfl
      | some o =>
        rcases E5.fresh D (by rw [z]; simp) with z2 | z2 | z2
        · exact absurd hF3 z2
        · rw [hD3] at z2
          cases z2
        · exact absurd (ow4 D z2) noD
    cases hb : b.1 with
    | true =>
      rw [if_pos hb] at ht
      obtain ⟨y2, ey, ht⟩ := obind ht
      cases ht
      have hc : some (y2.1.d :: u.1, u.2) = some (rest, q.2) := hc
      have hq := Prod.mk.inj (Option.some.inj hc)
      have h1 : y2.1.d :: u.1 = rest := hq.1
      have h2 : u.2 = q.2 := hq.2
      subst h1
      refine iteT ⟨G, F5, b.2, y2.1, y2.2, R5, ey, fun v H6 F6 R6 E6 q6 => ?_⟩
      obtain ⟨F7, R7, E7, q7⟩ := R5.settle R6 E6 q6
      have hD6 : H6 D = some (.lst acc) := E7.keep D _ hD5 fun z => noD (ow5 D z)
      have hF7 : F7 D = none := by
        cases z : F7 D with
        | none => rfl
        | some o =>
          rcases E7.fresh D (by rw [z]; simp) with z2 | z2 | z2
          · exact absurd hF5 z2
          · rw [hD5] at z2
            cases z2
          · exact absurd (ow5 D z2) noD
      obtain ⟨R8, O8⟩ := R7.wiped own
      rw [hwipe] at R8 O8
      have ow8 : ∀ a, Own (wipe σ (ixs own)) (wipeE y2.2 own) a → Own σ p.2 a := fun a z => ow5 a (E7.own a (O8 a z))
      have w8 : Wx (Own σ p.2) H1 F1 H6 F7 := w5.trans (E7.wx ow5)
      have qacc7 : DqAll X.K F7 acc ds2 := dpAllMono (m1.trans (E5.mono.trans E7.mono)) _ qacc
      refine ⟨acc, hD6, ?_, F7, wipeE y2.2 own, acc ++ [v], ds2 ++ [y2.1.d], u.1, R8.poke hG0 hF7 fun z => noD (ow8 D z), w8.poke hD, ow8, upd_same, hF7, dpAll_app qacc7 (.cons q7 .nil), by rw [← h2]; exact hu, ?_⟩
      · rw [dpAll_len qacc]
        have := congrArg List.length happ
        rw [List.length_append, List.length_cons] at this
        omega
      · rw [List.append_assoc]
        exact happ
    | false =>
      rw [if_neg (by rw [hb]; exact Bool.false_ne_true)] at ht
      cases ht
      cases hc
      obtain ⟨R8, O8⟩ := R5.wiped own
      rw [hwipe] at R8 O8
      exact iteF ⟨F5, wipeE b.2 own, acc, ds2, rest, R8, w5, fun a z => ow5 a (O8 a z), hD5, hF5, dpAllMono (m1.trans E5.mono) _ qacc, hu, happ⟩
  · rintro H2 ⟨F2, en, acc, ds2, rest, R2, w2, ow2, hacc, hF2, qacc, hc, happ⟩
    rw [List.drop_length] at hc
    cases hc
    rw [List.append_nil] at happ
    subst happ
    obtain ⟨Rb, Ob⟩ := R1.back hn R2 w2.mono
    refine k (.ref D) H2 F2 Rb (E1.trans ⟨w2.mono, w2.keep, w2.live, w2.fresh, fun b z => ow2 b (Ob b z)⟩) ⟨D, acc, rfl, ?_, hF2, hacc, qacc⟩
    cases z : H D with
    | none => rfl
    | some o => exact absurd hD (E1.live D (by rw [z]; simp))
end
end PF

/-! PF10: the soundness of expressions. -/
namespace PF
open PySem PySem.Spec PyProof.Rows L2
section
variable {X : Cx} {C : Cfg} {S : Sc} {Γ : Tab} {n : Nat}
theorem t_e {a : IE} {z : Expr} (ha : PE X z (rH X.K Γ C.cons a)) (ht : tstA z = true) : PT X z (rT X.K Γ C.cons (.e a)) :=
  pt_mono (pt_truth ha (plain_tst ht _)) fun σ H Q ⟨G, F, env, b, env', R, e, k⟩ => by
    obtain ⟨p, e1, e⟩ := obind e
    obtain ⟨d, e2, e⟩ := obind e
    obtain ⟨t, e3, e⟩ := obind e
    cases e
    exact ⟨G, F, env, p.1, p.2, R, e1, fun v H1 F1 R1 E1 q1 => ⟨_, opd_tru R1.sub (q1.opd R1 e2) e3, k H1 F1 R1 E1⟩⟩
/-- a test whose value is a truth -/
theorem t_bool {a : IE} (hb : ∀ env r env', runE Γ C.cons a env = some (r, env') → ∃ b, r = .v (.bool b)) (hx : ∀ (r : RE) (env : En), hd a r env = r.bind fun p => some (.d p.1.d, p.2)) {σ : L2.St} {H : Hp} {Q : Bool → Hp → Prop} (h : rT X.K Γ C.cons (.e a) σ H Q) :
    rE X.K Γ C.cons a σ H fun x H' => ∃ k, x = .bl k ∧ Q k H' := by
  obtain ⟨G, F, env, b, env', R, e, k⟩ := h
  obtain ⟨p, e1, e⟩ := obind e
  obtain ⟨d, e2, e⟩ := obind e
  obtain ⟨t, e3, e⟩ := obind e
  cases e
  rw [hx] at e1
  obtain ⟨q, e4, e1⟩ := obind e1
  cases e1
  obtain ⟨b', eb⟩ := hb env q.1 q.2 e4
  refine ⟨G, F, env, q.1, q.2, R, e4, fun v H1 F1 R1 E1 q1 => ?_⟩
  cases e2
  rw [eb] at q1 e3
  cases e3
  cases q1
  exact ⟨_, rfl, k H1 F1 R1 E1⟩
theorem cmp_bool {op : CmpOp} {a b : IE} : ∀ env r env', runE Γ C.cons (.cmp op a b) env = some (r, env') → ∃ t, r = .v (.bool t) := fun env r env' e => by
  obtain ⟨p, e1, e⟩ := obind e
  obtain ⟨q, e2, e⟩ := obind e
  obtain ⟨x, e3, e⟩ := obind e
  obtain ⟨y, e4, e⟩ := obind e
  obtain ⟨z, e5, e⟩ := obind e
  cases e
  exact ⟨_, rfl⟩
theorem ch_bool {op op' : CmpOp} {a b c : IE} : ∀ env r env', runE Γ C.cons (.ch op op' a b c) env = some (r, env') → ∃ t, r = .v (.bool t) := fun env r env' e => by
  obtain ⟨p, e1, e⟩ := obind e
  obtain ⟨q, e2, e⟩ := obind e
  obtain ⟨x, e3, e⟩ := obind e
  obtain ⟨y, e4, e⟩ := obind e
  obtain ⟨z, e5, e⟩ := obind e
  split at e
  · obtain ⟨w3, e6, e⟩ := obind e
    obtain ⟨y', e7, e⟩ := obind e
    obtain ⟨z', e8, e⟩ := obind e
    obtain ⟨r', e9, e⟩ := obind e
    cases e
    exact ⟨_, rfl⟩
  · cases e
    exact ⟨_, rfl⟩
theorem t_cmp (hC : COk X C Γ n) {op : CmpOp} {a b : IE} {x y : Expr} {pos : Pos} (ha : PE X x (rH X.K Γ C.cons a)) (hb : PE X y (rH X.K Γ C.cons b)) (py : plainA y = true) : PT X (.Compare x [op] [y] pos) (rT X.K Γ C.cons (.e (.cmp op a b))) :=
  pt_mono (pt_cmpR (op_cmp hC.units op) ha hb (plain_marks py op)) fun _ _ _ h => f_cmpR (t_bool cmp_bool (fun _ _ => rfl) h)
theorem t_ch (hC : COk X C Γ n) {op op' : CmpOp} {a b c : IE} {x y z : Expr} {pos : Pos} (ha : PE X x (rH X.K Γ C.cons a)) (hb : PE X y (rH X.K Γ C.cons b)) (hc : PE X z (rH X.K Γ C.cons c)) (pz : plainA z = true) :
    PT X (.Compare x [op, op'] [y, z] pos) (rT X.K Γ C.cons (.e (.ch op op' a b c))) :=
  pt_mono (pt_chain (op_cmp hC.units op) (op_cmp hC.units op') ha hb hc (marks2 pz)) fun _ _ _ h => f_chR (t_bool ch_bool (fun _ _ => rfl) h)
theorem t_not {a : IT} {x : Expr} {pos : Pos} (ha : PT X x (rT X.K Γ C.cons a)) : PT X (.UnaryOp .Not x pos) (rT X.K Γ C.cons (.not a)) :=
  pt_mono (pt_not ha) fun σ H Q ⟨G, F, env, b, env', R, e, k⟩ => by
    obtain ⟨p, e1, e⟩ := obind e
    cases e
    exact ⟨G, F, env, p.1, p.2, R, e1, fun H1 F1 R1 E1 => k H1 F1 R1 E1⟩
theorem t_and {a b : IT} {x y : Expr} {r : List Expr} {pos : Pos} (ha : PT X x (rT X.K Γ C.cons a)) (hb : PW X (.BoolOp .And (y :: r) pos) (rT X.K Γ C.cons b)) : PW X (.BoolOp .And (x :: y :: r) pos) (rT X.K Γ C.cons (.and a b)) :=
  pw_mono (pw_and ha hb) fun σ H Q ⟨G, F, env, t, env', R, e, k⟩ => by
    obtain ⟨p, e1, e⟩ := obind e
    refine ⟨G, F, env, p.1, p.2, R, e1, fun H1 F1 R1 E1 => ?_⟩
    cases hb : p.1 with
    | true =>
      rw [if_pos hb] at e
      exact iteT ⟨G, F1, p.2, t, env', R1, e, fun H2 F2 R2 E2 => k H2 F2 R2 (E1.trans E2)⟩
    | false =>
      rw [if_neg (by rw [hb]; exact Bool.false_ne_true)] at e
      cases e
      exact iteF (k H1 F1 R1 E1)
theorem t_or {a b : IT} {x y : Expr} {r : List Expr} {pos : Pos} (ha : PT X x (rT X.K Γ C.cons a)) (hb : PW X (.BoolOp .Or (y :: r) pos) (rT X.K Γ C.cons b)) : PW X (.BoolOp .Or (x :: y :: r) pos) (rT X.K Γ C.cons (.or a b)) :=
  pw_mono (pw_or ha hb) fun σ H Q ⟨G, F, env, t, env', R, e, k⟩ => by
    obtain ⟨p, e1, e⟩ := obind e
    refine ⟨G, F, env, p.1, p.2, R, e1, fun H1 F1 R1 E1 => ?_⟩
    cases hb : p.1 with
    | true =>
      rw [if_pos hb] at e
      cases e
      exact iteT (k H1 F1 R1 E1)
    | false =>
      rw [if_neg (by rw [hb]; exact Bool.false_ne_true)] at e
      exact iteF ⟨G, F1, p.2, t, env', R1, e, fun H2 F2 R2 E2 => k H2 F2 R2 (E1.trans E2)⟩
theorem pts_mono {l : List Expr} {t t' : TT} (h : PTs X l t) (f : ∀ σ H Q, t' σ H Q → t σ H Q) : PTs X l t' := ⟨fun pins s σ H Q I q => h.run pins s σ H Q I (f σ H Q q)⟩
theorem ts_yes : PTs X [] (rT X.K Γ C.cons .yes) := pts_mono pts_nil fun σ H Q ⟨G, F, env, b, env', R, e, k⟩ => by
  cases e
  exact k H F R Ext.refl
theorem COk.blk (h : COk X C Γ n) (s : Shared) (H : Hp) (scope : Scope) (cenv : Env) (fp : List Addr) : COk (X.blk s H scope cenv fp) C Γ n :=
  ⟨h.calm, h.N, h.nd, h.room, h.guards, h.blt, h.cons, h.fns⟩
theorem SOk.blk (h : SOk X S) (s : Shared) (H : Hp) (scope : Scope) (cl : List (Str × Addr)) (A : Addr) (fp : List Addr) :
    SOk (X.blk s H scope (compEnvC scope cl A X.env) fp) ⟨relS scope S.sc, fun x => scope.names.lookup x == some .cell⟩ := by
  refine ⟨?_, fun x h => h⟩
  show relabel scope X.env = relS scope S.sc
  rw [← h.sc]
  rfl
def Both (X : Cx) (t : TE) (l : List Expr) (k : Option BoolOp) : Prop := (∀ z, l = [z] → PE X z t) ∧ ∀ op pos, k = some op → l ≠ [] → PE X (.BoolOp op l pos) t
theorem both1 {t : TE} {z : Expr} {k : Option BoolOp} (h : PE X z t) : Both X t [z] k := ⟨fun z' e => by
  cases e
  exact h, fun op pos _ _ => pe_one h⟩
def BothT (X : Cx) (t : TT) (l : List Expr) (k : Option BoolOp) : Prop := (∀ z, l = [z] → PT X z t) ∧ ∀ op pos, k = some op → l ≠ [] → PW X (.BoolOp op l pos) t
theorem bothT1 {t : TT} {z : Expr} {k : Option BoolOp} (h : PT X z t) : BothT X t [z] k := ⟨fun z' e => by
  cases e
  exact h, fun op pos _ _ => by
    cases op with
    | And => exact pw_and1 h
    | Or => exact pw_or1 h⟩
theorem tgs_in {g : IG} {own : List (Str × Nat)} (h : (slotsG g).all (fun i => own.any fun p => decide (p.2 = i)) = true) : ∀ i ∈ slotsG g, i ∈ ixs own := fun i hi => by
  have := List.all_eq_true.mp h i hi
  obtain ⟨p, hp, e⟩ := List.any_eq_true.mp this
  exact List.mem_map.mpr ⟨p, hp, of_decide_eq_true e⟩
theorem chkI_plain (it : II) {tg z : Expr} (h : chkI C S it tg z = true) : plainA z = true := by
  cases it with
  | e a => exact chk_plain _ _ _ _ h
  | _ =>
    cases z <;> first
      | rfl
      | exact absurd h Bool.false_ne_true
theorem chkI_folded (it : II) {tg z : Expr} (h : chkI C S it tg z = true) (env : Env) (x : Value) : foldedSetIterable z env x = pure x := plain_folded (chkI_plain it h) env x
theorem chkL_nil {es : IL} (h : chkL C S es [] = true) : es = .nil := by
  cases es with
  | nil => rfl
  | _ => exact absurd h Bool.false_ne_true
end
theorem and3 {a b c : Bool} (h : (a && b && c) = true) : a = true ∧ b = true ∧ c = true := by
  rw [Bool.and_eq_true, Bool.and_eq_true] at h
  exact ⟨h.1.1, h.1.2, h.2⟩
theorem and2 {a b : Bool} (h : (a && b) = true) : a = true ∧ b = true := by
  rw [Bool.and_eq_true] at h
  exact h
mutual
theorem sE {C : Cfg} {Γ : Tab} {n : Nat} : ∀ (e : IE) {X : Cx} {S : Sc} (hC : COk X C Γ n) (hS : SOk X S) (l : List Expr) (k : Option BoolOp), chkE C S e l k = true → Both X (rE X.K Γ C.cons e) l k
  | .k d, X, S, hC, hS, l, k, h => by
    unfold chkE at h
    split at h
    · exact both1 (f_k h)
    · cases h
  | .g x, X, S, hC, hS, l, k, h => by
    unfold chkE at h
    split at h
    · obtain ⟨h1, h2, h3⟩ := and3 h
      cases of_decide_eq_true h1
      exact both1 (f_g hC hS h2 h3)
    · cases h
  | .x i, X, S, hC, hS, l, k, h => by
    unfold chkE at h
    split at h
    · exact both1 (f_x hC hS h)
    · cases h
  | .bin op a b, X, S, hC, hS, l, k, h => by
    unfold chkE at h
    split at h
    · obtain ⟨h1, h2, h3⟩ := and3 h
      cases of_decide_eq_true h1
      exact both1 (f_bin hC (h_of hC hS h2 ((sE a hC hS _ _ h2).1 _ rfl)) (h_of hC hS h3 ((sE b hC hS _ _ h3).1 _ rfl)))
    · cases h
  | .neg a, X, S, hC, hS, l, k, h => by
    unfold chkE at h
    split at h
    · exact both1 (f_neg (h_of hC hS h ((sE a hC hS _ _ h).1 _ rfl)))
    · cases h
  | .not a, X, S, hC, hS, l, k, h => by
    unfold chkE at h
    split at h
    · exact both1 (f_not (h_of hC hS h ((sE a hC hS _ _ h).1 _ rfl)))
    · cases h
  | .and a b, X, S, hC, hS, l, k, h => by
    unfold chkE at h
    split at h
    · obtain ⟨h2, h3⟩ := and2 h
      exact both1 (f_and ((sE a hC hS _ _ h2).1 _ rfl) ((sE b hC hS _ _ h3).2 _ _ rfl (by simp)))
    · obtain ⟨h2, h3⟩ := and2 h
      refine ⟨fun z e => by simp at e, fun op pos e _ => ?_⟩
      cases e
      exact f_and ((sE a hC hS _ _ h2).1 _ rfl) ((sE b hC hS _ _ h3).2 _ _ rfl (by simp))
    · cases h
  | .or a b, X, S, hC, hS, l, k, h => by
    unfold chkE at h
    split at h
    · obtain ⟨h2, h3⟩ := and2 h
      exact both1 (f_or ((sE a hC hS _ _ h2).1 _ rfl) ((sE b hC hS _ _ h3).2 _ _ rfl (by simp)))
    · obtain ⟨h2, h3⟩ := and2 h
      refine ⟨fun z e => by simp at e, fun op pos e _ => ?_⟩
      cases e
      exact f_or ((sE a hC hS _ _ h2).1 _ rfl) ((sE b hC hS _ _ h3).2 _ _ rfl (by simp))
    · cases h
  | .cmp op a b, X, S, hC, hS, l, k, h => by
    unfold chkE at h
    split at h
    · obtain ⟨h1, h2, h3⟩ := and3 h
      cases of_decide_eq_true h1
      exact both1 (f_cmp hC (h_of hC hS h2 ((sE a hC hS _ _ h2).1 _ rfl)) (h_of hC hS h3 ((sE b hC hS _ _ h3).1 _ rfl)) (chk_plain _ _ _ _ h3))
    · cases h
  | .ch op op' a b c, X, S, hC, hS, l, k, h => by
    unfold chkE at h
    split at h
    · obtain ⟨h, h5⟩ := and2 h
      obtain ⟨h, h4⟩ := and2 h
      obtain ⟨h1, h2, h3⟩ := and3 h
      cases of_decide_eq_true h1
      cases of_decide_eq_true h2
      exact both1 (f_ch hC (h_of hC hS h3 ((sE a hC hS _ _ h3).1 _ rfl)) (h_of hC hS h4 ((sE b hC hS _ _ h4).1 _ rfl)) (h_of hC hS h5 ((sE c hC hS _ _ h5).1 _ rfl)) (chk_plain _ _ _ _ h5))
    · cases h
  | .ife t a b, X, S, hC, hS, l, k, h => by
    unfold chkE at h
    split at h
    · obtain ⟨h1, h2, h3⟩ := and3 h
      exact both1 (f_ife ((sT t hC hS _ _ h1).1 _ rfl) ((sE a hC hS _ _ h2).1 _ rfl) ((sE b hC hS _ _ h3).1 _ rfl))
    · cases h
  | .ix a b, X, S, hC, hS, l, k, h => by
    unfold chkE at h
    split at h
    · obtain ⟨h2, h3⟩ := and2 h
      exact both1 (f_ix (h_of hC hS h2 ((sE a hC hS _ _ h2).1 _ rfl)) (h_of hC hS h3 ((sE b hC hS _ _ h3).1 _ rfl)) (chk_plain _ _ _ _ h3))
    · cases h
  | .sl a lo hi, X, S, hC, hS, l, k, h => by
    unfold chkE at h
    split at h
    · obtain ⟨h1, h2, h3⟩ := and3 h
      exact both1 (f_sl (h_of hC hS h1 ((sE a hC hS _ _ h1).1 _ rfl)) (sO lo hC hS _ h2) (sO hi hC hS _ h3))
    · cases h
  | .rv a, X, S, hC, hS, l, k, h => by
    unfold chkE at h
    split at h
    · exact both1 (f_rv (h_of hC hS h ((sE a hC hS _ _ h).1 _ rfl)))
    · cases h
  | .tup es, X, S, hC, hS, l, k, h => by
    unfold chkE at h
    split at h
    · exact both1 (f_tup (sV es hC hS _ h))
    · cases h
  | .lst es, X, S, hC, hS, l, k, h => by
    unfold chkE at h
    split at h
    · exact both1 (f_lst (sV es hC hS _ h))
    · cases h
  | .fn f es, X, S, hC, hS, l, k, h => by
    unfold chkE at h
    split at h
    · obtain ⟨h, h4⟩ := and2 h
      obtain ⟨h1, h2, h3⟩ := and3 h
      exact both1 (f_fn hC hS (of_decide_eq_true h1) h2 (sL es hC hS _ h3 h4) h4)
    · cases h
  | .isi a t, X, S, hC, hS, l, k, h => by
    unfold chkE at h
    split at h
    · obtain ⟨h, h6⟩ := and2 h
      obtain ⟨h, h5⟩ := and2 h
      obtain ⟨h, h4⟩ := and2 h
      obtain ⟨h1, h2, h3⟩ := and3 h
      exact both1 (f_isi hC hS (of_decide_eq_true h1) h2 (h_of hC hS h3 ((sE a hC hS _ _ h3).1 _ rfl)) (chk_plain _ _ _ _ h3) (of_decide_eq_true h4) h5 h6)
    · cases h
  | .call f es, X, S, hC, hS, l, k, h => by
    unfold chkE at h
    split at h
    · obtain ⟨h, h5⟩ := and2 h
      obtain ⟨h, h4⟩ := and2 h
      obtain ⟨h1, h2, h3⟩ := and3 h
      refine both1 (f_call hC hS (of_decide_eq_true h1) h2 h3 (sV es hC hS _ h4) h5 fun z => ?_)
      rw [z] at h4
      exact chkL_nil h4
    · cases h
  | .lc own g it c e, X, S, hC, hS, l, k, h => by
    unfold chkE at h
    split at h
    · rename_i elt tg iter ifs as scope pos
      obtain ⟨h, h7⟩ := and2 h
      obtain ⟨h, h6⟩ := and2 h
      obtain ⟨h, h5⟩ := and2 h
      obtain ⟨h, h4⟩ := and2 h
      obtain ⟨h1, h2, h3⟩ := and3 h
      cases of_decide_eq_true h1
      have pi := sI it hC hS _ _ h2
      refine both1 (pe_mono (pe_lc hC.calm hC.nd pi (blkOk_by (own := own) (by rw [hS.sc, hC.N]; exact h3)) (fun s H A cl fp => sG (hC.blk s H scope _ fp) (hS.blk s H scope cl A fp) g _ h4) (fun s H A cl fp => ?_)
        (fun s H A cl fp => (sE e (hC.blk s H scope _ fp) (hS.blk s H scope cl A fp) _ _ h7).1 _ rfl) (fun x => chkI_folded it h2 X.env x)) fun σ H Q h => lcR (tgs_in h5) h)
      split at h6
      · split at h6
        · exact ts_yes
        · cases h6
      · exact pts_one ((sT c (hC.blk s H scope _ fp) (hS.blk s H scope cl A fp) _ _ h6).1 _ rfl)
      · cases h6
    · cases h
  | .mt m i es, X, S, hC, hS, l, k, h => by
    unfold chkE at h
    split at h
    · obtain ⟨h, h6⟩ := and2 h
      obtain ⟨h, h5⟩ := and2 h
      obtain ⟨h, h4⟩ := and2 h
      obtain ⟨h1, h2, h3⟩ := and3 h
      refine both1 (f_mt hC hS h1 (of_decide_eq_true h2) h3 (sV es hC hS _ h4) h5 (of_decide_eq_true h6) fun z => ?_)
      rw [z] at h4
      exact chkL_nil h4
    · cases h
theorem sT {C : Cfg} {Γ : Tab} {n : Nat} : ∀ (t : IT) {X : Cx} {S : Sc} (hC : COk X C Γ n) (hS : SOk X S) (l : List Expr) (k : Option BoolOp), chkT C S t l k = true → BothT X (rT X.K Γ C.cons t) l k
  | .yes, X, S, hC, hS, l, k, h => absurd h Bool.false_ne_true
  | .e a, X, S, hC, hS, l, k, h => by
    unfold chkT at h
    split at h
    · rename_i z
      obtain ⟨h1, h2⟩ := and2 h
      have pz := (sE a hC hS _ _ h1).1 _ rfl
      cases a with
      | cmp op a1 b1 =>
        unfold chkE at h1
        split at h1
        · rename_i e
          cases e
          obtain ⟨g1, g2, g3⟩ := and3 h1
          cases of_decide_eq_true g1
          exact bothT1 (t_cmp hC (h_of hC hS g2 ((sE a1 hC hS _ _ g2).1 _ rfl)) (h_of hC hS g3 ((sE b1 hC hS _ _ g3).1 _ rfl)) (chk_plain _ _ _ _ g3))
        · cases h1
      | ch op op' a1 b1 c1 =>
        unfold chkE at h1
        split at h1
        · rename_i e
          cases e
          obtain ⟨h1, h5⟩ := and2 h1
          obtain ⟨h1, h4⟩ := and2 h1
          obtain ⟨g1, g2, g3⟩ := and3 h1
          cases of_decide_eq_true g1
          cases of_decide_eq_true g2
          exact bothT1 (t_ch hC (h_of hC hS g3 ((sE a1 hC hS _ _ g3).1 _ rfl)) (h_of hC hS h4 ((sE b1 hC hS _ _ h4).1 _ rfl)) (h_of hC hS h5 ((sE c1 hC hS _ _ h5).1 _ rfl)) (chk_plain _ _ _ _ h5))
        · cases h1
      | _ =>
        rw [Bool.or_eq_true] at h2
        rcases h2 with h2 | h2
        · exact bothT1 (t_e (h_of hC hS h1 pz) h2)
        · exact absurd h2 Bool.false_ne_true
    · cases h
  | .not a, X, S, hC, hS, l, k, h => by
    unfold chkT at h
    split at h
    · exact bothT1 (t_not ((sT a hC hS _ _ h).1 _ rfl))
    · cases h
  | .and a b, X, S, hC, hS, l, k, h => by
    unfold chkT at h
    split at h
    · obtain ⟨h2, h3⟩ := and2 h
      exact bothT1 (t_and ((sT a hC hS _ _ h2).1 _ rfl) ((sT b hC hS _ _ h3).2 _ _ rfl (by simp))).pt
    · obtain ⟨h2, h3⟩ := and2 h
      refine ⟨fun z e => by simp at e, fun op pos e _ => ?_⟩
      cases e
      exact t_and ((sT a hC hS _ _ h2).1 _ rfl) ((sT b hC hS _ _ h3).2 _ _ rfl (by simp))
    · cases h
  | .or a b, X, S, hC, hS, l, k, h => by
    unfold chkT at h
    split at h
    · obtain ⟨h2, h3⟩ := and2 h
      exact bothT1 (t_or ((sT a hC hS _ _ h2).1 _ rfl) ((sT b hC hS _ _ h3).2 _ _ rfl (by simp))).pt
    · obtain ⟨h2, h3⟩ := and2 h
      refine ⟨fun z e => by simp at e, fun op pos e _ => ?_⟩
      cases e
      exact t_or ((sT a hC hS _ _ h2).1 _ rfl) ((sT b hC hS _ _ h3).2 _ _ rfl (by simp))
    · cases h
  | .ife _ _ _, X, S, hC, hS, l, k, h => absurd h Bool.false_ne_true
theorem sL {C : Cfg} {Γ : Tab} {n : Nat} : ∀ (es : IL) {X : Cx} {S : Sc} (hC : COk X C Γ n) (hS : SOk X S) (l : List Expr), chkL C S es l = true → l.all plainA = true → PA X l (rL X.K Γ C.cons es)
  | .nil, X, S, hC, hS, l, h, hp => by
    cases l with
    | nil => exact l_nil
    | cons _ _ => exact absurd h Bool.false_ne_true
  | .cons a r, X, S, hC, hS, l, h, hp => by
    cases l with
    | nil => exact absurd h Bool.false_ne_true
    | cons z zs =>
      obtain ⟨h1, h2⟩ := and2 h
      rw [List.all_cons] at hp
      exact l_cons (h_of hC hS h1 ((sE a hC hS _ _ h1).1 _ rfl)) (sL r hC hS _ h2 (and2 hp).2) (and2 hp).1
  | .star a r, X, S, hC, hS, l, h, hp => ⟨fun pos pins s σ H Q I ⟨G, F, env, hs, env', R, e, k⟩ => by cases e⟩
  | .io i r, X, S, hC, hS, l, h, hp => ⟨fun pos pins s σ H Q I ⟨G, F, env, hs, env', R, e, k⟩ => by cases e⟩
theorem sV {C : Cfg} {Γ : Tab} {n : Nat} : ∀ (es : IL) {X : Cx} {S : Sc} (hC : COk X C Γ n) (hS : SOk X S) (l : List Expr), chkL C S es l = true → PA X l (rV X.K Γ C.cons es)
  | .nil, X, S, hC, hS, l, h => by
    cases l with
    | nil => exact v_nil
    | cons _ _ => exact absurd h Bool.false_ne_true
  | .cons a r, X, S, hC, hS, l, h => by
    cases l with
    | nil => exact absurd h Bool.false_ne_true
    | cons z zs =>
      obtain ⟨h1, h2⟩ := and2 h
      exact v_cons ((sE a hC hS _ _ h1).1 _ rfl) (sV r hC hS _ h2) (chk_plain _ _ _ _ h1)
  | .star a r, X, S, hC, hS, l, h => by
    unfold chkL at h
    split at h
    · obtain ⟨h1, h2⟩ := and2 h
      exact v_star ((sE a hC hS _ _ h1).1 _ rfl) (sV r hC hS _ h2)
    · cases h
  | .io i r, X, S, hC, hS, l, h => by
    unfold chkL at h
    split at h
    · obtain ⟨h1, h2⟩ := and2 h
      exact v_io hC hS h1 (sV r hC hS _ h2)
    · cases h
theorem sO {C : Cfg} {Γ : Tab} {n : Nat} : ∀ (o : IO) {X : Cx} {S : Sc} (hC : COk X C Γ n) (hS : SOk X S) (l : Option Expr), chkO C S o l = true → PO X l (rO X.K Γ C.cons o)
  | .no, X, S, hC, hS, l, h => by
    cases l with
    | none => exact o_no
    | some _ => exact absurd h Bool.false_ne_true
  | .so a, X, S, hC, hS, l, h => by
    cases l with
    | none => exact absurd h Bool.false_ne_true
    | some z => exact o_so (h_of hC hS h ((sE a hC hS _ _ h).1 _ rfl))
theorem sI {C : Cfg} {Γ : Tab} {n : Nat} : ∀ (it : II) {X : Cx} {S : Sc} (hC : COk X C Γ n) (hS : SOk X S) (tg z : Expr), chkI C S it tg z = true → PI X tg z (rI X.K Γ C.cons it)
  | .e a, X, S, hC, hS, tg, z, h => i_e ((sE a hC hS _ _ h).1 _ rfl)
  | .r1 a, X, S, hC, hS, tg, z, h => by
    unfold chkI at h
    split at h
    · obtain ⟨h1, h2, h3⟩ := and3 h
      exact i_r1 hC hS (of_decide_eq_true h1) h2 (h_of hC hS h3 ((sE a hC hS _ _ h3).1 _ rfl)) (chk_plain _ _ _ _ h3)
    · cases h
  | .r2 a b, X, S, hC, hS, tg, z, h => by
    unfold chkI at h
    split at h
    · obtain ⟨h, h4⟩ := and2 h
      obtain ⟨h1, h2, h3⟩ := and3 h
      exact i_r2 hC hS (of_decide_eq_true h1) h2 (h_of hC hS h3 ((sE a hC hS _ _ h3).1 _ rfl)) (chk_plain _ _ _ _ h3) (h_of hC hS h4 ((sE b hC hS _ _ h4).1 _ rfl)) (chk_plain _ _ _ _ h4)
    · cases h
  | .zip a b, X, S, hC, hS, tg, z, h => by
    unfold chkI at h
    split at h
    · obtain ⟨h, h5⟩ := and2 h
      obtain ⟨h, h4⟩ := and2 h
      obtain ⟨h1, h2, h3⟩ := and3 h
      exact i_zip hC hS h1 (of_decide_eq_true h2) h3 ((sE a hC hS _ _ h4).1 _ rfl) (chk_plain _ _ _ _ h4) ((sE b hC hS _ _ h5).1 _ rfl) (chk_plain _ _ _ _ h5)
    · cases h
  | .enum a, X, S, hC, hS, tg, z, h => by
    unfold chkI at h
    split at h
    · obtain ⟨h, h4⟩ := and2 h
      obtain ⟨h1, h2, h3⟩ := and3 h
      exact i_enum hC hS h1 (of_decide_eq_true h2) h3 ((sE a hC hS _ _ h4).1 _ rfl) (chk_plain _ _ _ _ h4)
    · cases h
end
end PF

/-! PF11: statements. -/
namespace PF
open PySem PySem.Spec PyProof.Rows L2
/-! ### the check -/
def notComp : Expr → Bool
  | .ListComp .. => false
  | .SetComp .. => false
  | .DictComp .. => false
  | _ => true
def isTup : Expr → Bool
  | .Tuple .. => true
  | _ => false
mutual
def chkS (C : Cfg) (S : Sc) : IS → Stmt → Bool
  | .set i e, st => match st with
    | .Assign [.Name x _] v _ => tgS C S i x && chkE C S e [v] none
    | _ => false
  | .tgt gs e, st => match st with
    | .Assign [.Tuple es _ _] v _ => chkGs C S gs es && chkE C S e [v] none && !isTup v
    | _ => false
  | .par2 i j a b, st => match st with
    | .Assign [.Tuple [.Name x px, .Name y py] _ _] (.Tuple [u, v] _ _) _ => decide (C.N[i]? = some x) && decide (C.N[j]? = some y) && decide (S.sc.names.lookup x = some .local) && decide (S.sc.names.lookup y = some .local) && decide (px.line = py.line) &&
        decide (x ≠ y) && !([u, v].all (foldedForSure 8)) && !([u, v].all (constantsAlone 8)) && decide (S.sc.kind = .function) && chkE C S a [u] none && chkE C S b [v] none
    | _ => false
  | .par3 i j l a b c, st => match st with
    | .Assign [.Tuple [.Name x px, .Name y py, .Name z pz] _ _] (.Tuple [u, v, w] _ _) _ => decide (C.N[i]? = some x) && decide (C.N[j]? = some y) && decide (C.N[l]? = some z) && decide (S.sc.names.lookup x = some .local) && decide (S.sc.names.lookup y = some .local) &&
        decide (S.sc.names.lookup z = some .local) && decide (px.line = py.line) && decide (px.line = pz.line) && decide (x ≠ y) && decide (x ≠ z) && decide (y ≠ z) && !([u, v, w].all (foldedForSure 8)) && !([u, v, w].all (constantsAlone 8)) && decide (S.sc.kind = .function) &&
        chkE C S a [u] none && chkE C S b [v] none && chkE C S c [w] none
    | _ => false
  | .six i k e, st => match st with
    | .Assign [.Subscript (.Name x _) kx _] v _ => nmS C S i x && chkE C S k [kx] none && chkE C S e [v] none
    | _ => false
  | .aug i op e, st => match st with
    | .AugAssign (.Name x _) o v _ => tgS C S i x && decide (op = o) && chkE C S e [v] none
    | _ => false
  | .aix i k op e, st => match st with
    | .AugAssign (.Subscript (.Name x _) kx _) o v _ => nmS C S i x && chkE C S k [kx] none && decide (op = o) && chkE C S e [v] none
    | _ => false
  | .ret e, st => match st with
    | .Return (some v) _ => chkE C S e [v] none
    | _ => false
  | .retx i, st => match st with
    | .Return (some (.Name x _)) _ => nmS C S i x
    | _ => false
  | .retn, st => match st with
    | .Return none _ => true
    | _ => false
  | .ex e, st => match st with
    | .Expr v _ => chkE C S e [v] none && notComp v
    | _ => false
  | .cond t a b, st => match st with
    | .If z x y _ => chkT C S t [z] none && chkB C S a x && chkB C S b y
    | _ => false
  | .for g it b, st => match st with
    | .For tg iter body [] _ => chkI C S it tg iter && chkG C S g tg && chkB C S b body
    | _ => false
  | .wh t b, st => match st with
    | .While z body [] _ => chkT C S t [z] none && chkB C S b body
    | _ => false
  | .brk, st => match st with
    | .Break _ => true
    | _ => false
  | .cnt, st => match st with
    | .Continue _ => true
    | _ => false
  | .pass, st => match st with
    | .Pass _ => true
    | _ => false
def chkB (C : Cfg) (S : Sc) : IB → List Stmt → Bool
  | .nil, l => l.isEmpty
  | .cons s r, l => match l with
    | z :: zs => chkS C S s z && chkB C S r zs
    | [] => false
end
/-! ### two and three names at once -/
theorem sw2 {x y : Str} {px py p p2 : Pos} {k k2 : Nat} {a b : Expr} {env : Env} (hk : env.scope.kind = .function) (hx : env.scope.names.lookup x = some .local) (hy : env.scope.names.lookup y = some .local) (hl : px.line = py.line) (hxy : x ≠ y)
   (sa : notStar a = true) (sb : notStar b = true) (hf : ([a, b].all (foldedForSure 8)) = false) (hc : ([a, b].all (constantsAlone 8)) = false) :
   swappedStores [.Tuple [.Name x px, .Name y py] k p] (.Tuple [a, b] k2 p2) env = pure (some [x, y]) := by
  have kx : env.kindOf x = some .local := hx
  have ky : env.kindOf y = some .local := hy
  have hb : env.blockKind = .function := by unfold Env.blockKind; rw [hk]; rfl
  have key : ∀ f : Expr → Bool, (∀ z, notStar z = true → f z = false) → ([a, b].any f) = false := fun f h => by simp [h a sa, h b sb]
  unfold swappedStores
  simp only [hb, hf, hc, kx, ky, hl, Expr.pos, List.head?_cons, Option.map_some, Option.getD_some, List.filterMap_cons, List.filterMap_nil, List.length_cons, List.length_nil, beq_self_eq_true, Bool.and_self, ite_true, Bool.or_true, Bool.true_or, Bool.not_true, Bool.false_or, bne_self_eq_false, ite_false, Bool.false_eq_true]
  have hd : [x, y].eraseDups = [x, y] := by
    simp [List.eraseDups_cons, hxy, Ne.symm hxy]
  rw [hd, if_neg (by rw [key _ fun z hz => by cases z <;> first | exact absurd hz Bool.false_ne_true | rfl]; exact Bool.false_ne_true)]
  rfl
theorem sw3 {x y z : Str} {px py pz p p2 : Pos} {k k2 : Nat} {a b c : Expr} {env : Env} (hk : env.scope.kind = .function) (hx : env.scope.names.lookup x = some .local) (hy : env.scope.names.lookup y = some .local) (hz : env.scope.names.lookup z = some .local) (hl : px.line = py.line) (hl2 : px.line = pz.line)
   (hxy : x ≠ y) (hxz : x ≠ z) (hyz : y ≠ z) (sa : notStar a = true) (sb : notStar b = true) (sc : notStar c = true) (hf : ([a, b, c].all (foldedForSure 8)) = false) (hc : ([a, b, c].all (constantsAlone 8)) = false) :
   swappedStores [.Tuple [.Name x px, .Name y py, .Name z pz] k p] (.Tuple [a, b, c] k2 p2) env = pure (some [x, y, z]) := by
  have kx : env.kindOf x = some .local := hx
  have ky : env.kindOf y = some .local := hy
  have kz : env.kindOf z = some .local := hz
  have hb : env.blockKind = .function := by unfold Env.blockKind; rw [hk]; rfl
  have key : ∀ f : Expr → Bool, (∀ z, notStar z = true → f z = false) → ([a, b, c].any f) = false := fun f h => by simp [h a sa, h b sb, h c sc]
  have l1 : py.line = pz.line := hl.symm.trans hl2
  unfold swappedStores
  simp only [hb, hf, hc, kx, ky, kz, hl, l1, Expr.pos, List.head?_cons, Option.map_some, Option.getD_some, List.filterMap_cons, List.filterMap_nil, List.length_cons, List.length_nil, beq_self_eq_true, Bool.and_self, ite_true, Bool.or_true, Bool.true_or, Bool.not_true, Bool.false_or, bne_self_eq_false, ite_false, Bool.false_eq_true]
  have hd : [x, y, z].eraseDups = [x, y, z] := by
    simp [List.eraseDups_cons, hxy, Ne.symm hxy, hxz, Ne.symm hxz, hyz, Ne.symm hyz]
  rw [hd, if_neg (by rw [key _ fun z hz => by cases z <;> first | exact absurd hz Bool.false_ne_true | rfl]; exact Bool.false_ne_true)]
  rfl
theorem sw_comp {elt : Expr} {gs : List Comprehension} {scope : Scope} {pos py : Pos} {y : Str} {l : Nat} {env : Env} : swapsWith (.ListComp elt gs scope pos) (some (.Name y py)) l env =
    pure (env.blockKind == .function && env.kindOf y == some .local && py.line == pos.line && !(scope.names.any fun (n, k) => n == y && (k == .local || k == .cell))) := by
  unfold swapsWith
  rfl
theorem plain_notStar {z : Expr} (h : plainA z = true) : notStar z = true := by
  cases z <;> first | exact absurd h Bool.false_ne_true | rfl
/-! ### the ends of statements -/
def RT (K : PySem.W.Frag) (G : Gh) (H F : Hp) (v : V) : Sl → Prop
  | .v d => Dq K F v d
  | .o ds => ∃ p vs, v = .ref p ∧ G.H0 p = none ∧ F p = none ∧ H p = some (.lst vs) ∧ DqAll K F vs ds
  | .b _ => False
def EndOk (K : PySem.W.Frag) (G : Gh) (F : Hp) (D : Ends) : Fl → Prop
  | .nx e => ∀ σ' H' F', Same F F' → Rel K G σ' H' F' e → D.nx σ' H'
  | .bk e => ∀ σ' H' F', Same F F' → Rel K G σ' H' F' e → D.bk σ' H'
  | .ct e => ∀ σ' H' F', Same F F' → Rel K G σ' H' F' e → D.ct σ' H'
  | .rt r e => ∀ v σ' H' F', Same F F' → Rel K G σ' H' F' e → RT K G H' F' v r → D.rt v H'
theorem EndOk.mono {K : PySem.W.Frag} {G : Gh} {F F' : Hp} {D : Ends} {fl : Fl} (m : Same F F') (h : EndOk K G F D fl) : EndOk K G F' D fl := by
  cases fl with
  | nx e => exact fun σ' H' F2 m2 R => h σ' H' F2 (m.trans m2) R
  | bk e => exact fun σ' H' F2 m2 R => h σ' H' F2 (m.trans m2) R
  | ct e => exact fun σ' H' F2 m2 R => h σ' H' F2 (m.trans m2) R
  | rt r e => exact fun v σ' H' F2 m2 R q => h v σ' H' F2 (m.trans m2) R q
section
variable (K : PySem.W.Frag) (Γ : Tab) (C : List (Str × PyData)) (FU : Nat)
def rS (st : IS) : TS := fun D σ H => ∃ G F env fl, Rel K G σ H F env ∧ runS Γ C FU st env = some fl ∧ EndOk K G F D fl
def rB (st : IB) : TS := fun D σ H => ∃ G F env fl, Rel K G σ H F env ∧ runB Γ C FU st env = some fl ∧ EndOk K G F D fl
end
section
variable {X : Cx} {C : Cfg} {S : Sc} {Γ : Tab} {n FU : Nat}
theorem tg_of (hC : COk X C Γ n) (hS : SOk X S) {i : Nat} {x : Str} (h : tgS C S i x = true) : X.N[i]? = some x ∧ L2.Loc X.env.scope x ∧ (X.fn x = true ∨ X.env.scope.names.lookup x = some .local) := by
  unfold tgS at h
  obtain ⟨h1, h2⟩ := and2 h
  obtain ⟨h3, h4⟩ := loc_of hS h2
  exact ⟨by rw [hC.N]; exact of_decide_eq_true h1, h3, h4⟩
/-- a name takes a result -/
theorem setR {K : PySem.W.Frag} {G : Gh} {σ : L2.St} {H F H' F' : Hp} {env env' env2 : En} {i : Nat} {v : V} {r : Sl} (R0 : Rel K G σ H F env) (R : Rel K G σ H' F' env') (E : Ext σ env H F H' F' env') (q : RV K H H' F' v r) (e : env'.put i r = some env2) :
    Rel K G (σ.set i (some v)) H' F' env2 := by
  cases r with
  | v d => exact R.setv e q
  | b ds => exact q.elim
  | o ds =>
    obtain ⟨p, vs, rfl, h1, h2, h3, h4⟩ := q
    refine R.seto e ?_ h2 h3 h4 fun z => (R0.ownAt (E.own p z)).1 h1
    cases z : G.H0 p with
    | none => rfl
    | some o => exact absurd h1 (R0.live p (by rw [z]; simp))
theorem g_setR {i : Nat} {e : IE} {D : Ends} {σ : L2.St} {H : Hp} (h : rS X.K Γ C.cons FU (.set i e) D σ H) : tAsg (rE X.K Γ C.cons e) (gName i) D σ H := by
  obtain ⟨G, F, env, fl, R, ev, k⟩ := h
  obtain ⟨p, e1, ev⟩ := obind ev
  obtain ⟨e2, e3, ev⟩ := obind ev
  cases ev
  exact ⟨G, F, env, p.1, p.2, R, e1, fun v H1 F1 R1 E1 q1 => k _ _ _ E1.mono (setR R R1 E1 q1 e3)⟩
theorem g_set (hC : COk X C Γ n) (hS : SOk X S) {i : Nat} {e : IE} {x : Str} {px pos : Pos} {v : Expr} (ht : tgS C S i x = true) (hv : chkE C S e [v] none = true) : PS X (.Assign [.Name x px] v pos) (rS X.K Γ C.cons FU (.set i e)) := by
  obtain ⟨t1, t2, t3⟩ := tg_of hC hS ht
  have pv := (sE e hC hS _ _ hv).1 _ rfl
  have plain : swapsWith v (some (.Name x px)) pos.line X.env = pure false → PS X (.Assign [.Name x px] v pos) (rS X.K Γ C.cons FU (.set i e)) := fun hs => ps_mono (ps_set hC.nd t1 t2 pv hs t3) fun D σ H h => g_setR h
  cases v with
  | ListComp elt gs scope p =>
    rw [sw_comp] at plain
    cases hb : (X.env.blockKind == .function && X.env.kindOf x == some .local && px.line == p.line && !(scope.names.any fun (n, k) => n == x && (k == .local || k == .cell))) with
    | false => exact plain (by rw [hb])
    | true =>
      have hsw : swapsWith (.ListComp elt gs scope p) (some (.Name x px)) pos.line X.env = pure true := by rw [sw_comp, hb]
      obtain ⟨hb, _⟩ := and2 hb
      obtain ⟨_, b2, _⟩ := and3 hb
      have b3 : X.env.kindOf x = some .local := by simpa using b2
      have hl : X.env.scope.names.lookup x = some .local := b3
      cases e with
      | lc own g it c e =>
        unfold chkE at hv
        split at hv
        · rename_i elt2 tg iter ifs as scope2 p2 heq
          cases heq
          obtain ⟨h, h7⟩ := and2 hv
          obtain ⟨h, h6⟩ := and2 h
          obtain ⟨h, h5⟩ := and2 h
          obtain ⟨h, h4⟩ := and2 h
          obtain ⟨h1, h2, h3⟩ := and3 h
          cases of_decide_eq_true h1
          refine ps_mono (ps_setLc hC.calm hC.nd t1 hl hsw (sI it hC hS _ _ h2) (blkOk_by (own := own) (by rw [hS.sc, hC.N]; exact h3)) (fun s H A cl fp => sG (hC.blk s H scope _ fp) (hS.blk s H scope cl A fp) g _ h4) (fun s H A cl fp => ?_)
            (fun s H A cl fp => (sE e (hC.blk s H scope _ fp) (hS.blk s H scope cl A fp) _ _ h7).1 _ rfl) (fun x => chkI_folded it h2 X.env x)) fun D σ H h => lcR (tgs_in h5) (g_setR h)
          split at h6
          · split at h6
            · exact ts_yes
            · cases h6
          · exact pts_one ((sT c (hC.blk s H scope _ fp) (hS.blk s H scope cl A fp) _ _ h6).1 _ rfl)
          · cases h6
        · cases hv
      | _ => exact absurd hv Bool.false_ne_true
  | SetComp _ _ _ _ => exact absurd (chk_plain _ _ _ _ hv) Bool.false_ne_true
  | DictComp _ _ _ _ _ => exact absurd (chk_plain _ _ _ _ hv) Bool.false_ne_true
  | _ => exact plain rfl
theorem g_tgt (hC : COk X C Γ n) (hS : SOk X S) {gs : IGs} {e : IE} {es : List Expr} {j : Nat} {tp pos : Pos} {v : Expr} (ht : chkGs C S gs es = true) (hv : chkE C S e [v] none = true) (hn : isTup v = false) :
    PS X (.Assign [.Tuple es j tp] v pos) (rS X.K Γ C.cons FU (.tgt gs e)) := by
  have pv := (sE e hC hS _ _ hv).1 _ rfl
  have pg := sG hC hS (.t gs) (.Tuple es j tp) ht
  have pl := chk_plain _ _ _ _ hv
  refine ps_mono (ps_asg pv pg (by cases v <;> first | exact absurd pl Bool.false_ne_true | rfl) (by cases v <;> first | exact absurd pl Bool.false_ne_true | exact absurd hn.symm Bool.false_ne_true | rfl)) fun D σ H ⟨G, F, env, fl, R, ev, k⟩ => ?_
  obtain ⟨p, e1, ev⟩ := obind ev
  refine ⟨G, F, env, p.1, p.2, R, e1, fun w H1 F1 R1 E1 q1 => ?_⟩
  obtain ⟨F2, R2, E2, q2⟩ := R.settle R1 E1 q1
  split at ev
  · rename_i ds hd
    obtain ⟨e2, e3, ev⟩ := obind ev
    cases ev
    exact ⟨G, F2, p.2, p.1.d, e2, R2, q2, by rw [hd]; exact e3, fun σ' R' _ _ _ => k σ' H1 F2 E2.mono R'⟩
  · cases ev
theorem two_vals {a b : IE} {K : PySem.W.Frag} {cons : List (Str × PyData)} {σ : L2.St} {H : Hp} {G : Gh} {F : Hp} {env : En} {p q : Sl × En} {R : List V → Hp → Prop} {tr : TA} (R0 : Rel K G σ H F env) (e1 : runE Γ cons a env = some p) (e2 : runE Γ cons b p.2 = some q)
    (k : ∀ v w H2 F2, Rel K G σ H2 F2 q.2 → Ext σ env H F H2 F2 q.2 → Dq K F2 v p.1.d → Dq K F2 w q.1.d → tr σ H2 fun us H3 => R (v :: w :: us) H3) :
    tCons (rE K Γ cons a) (tCons (rE K Γ cons b) tr) σ H R := by
  refine ⟨G, F, env, p.1, p.2, R0, e1, fun v H1 F1 R1 E1 q1 => ?_⟩
  obtain ⟨F2, R2, E2, k1⟩ := R0.settle R1 E1 q1
  refine ⟨G, F2, p.2, q.1, q.2, R2, e2, fun w H3 F3 R3 E3 q3 => ?_⟩
  obtain ⟨F4, R4, E4, k2⟩ := R2.settle R3 E3 q3
  exact k v w H3 F4 R4 (E2.trans E4) (dpMono E4.mono _ k1) k2
theorem ne_ix (hC : COk X C Γ n) {i j : Nat} {x y : Str} (h1 : X.N[i]? = some x) (h2 : X.N[j]? = some y) (h : x ≠ y) : i ≠ j := fun e => h (by
  rw [e, h2] at h1
  exact (Option.some.inj h1).symm)
theorem g_par2 (hC : COk X C Γ n) (hS : SOk X S) {i j : Nat} {a b : IE} {x y : Str} {px py tp tp2 pos : Pos} {k1 k2 : Nat} {u v : Expr} (h1 : X.N[i]? = some x) (h2 : X.N[j]? = some y) (l1 : S.sc.names.lookup x = some .local) (l2 : S.sc.names.lookup y = some .local) (hl : px.line = py.line) (hxy : x ≠ y)
    (hf : ([u, v].all (foldedForSure 8)) = false) (hc : ([u, v].all (constantsAlone 8)) = false) (hk : S.sc.kind = .function) (ha : chkE C S a [u] none = true) (hb : chkE C S b [v] none = true) :
    PS X (.Assign [.Tuple [.Name x px, .Name y py] k1 tp] (.Tuple [u, v] k2 tp2) pos) (rS X.K Γ C.cons FU (.par2 i j a b)) := by
  have pu := chk_plain _ _ _ _ ha
  have pv := chk_plain _ _ _ _ hb
  rw [← hS.sc] at l1 l2 hk
  refine ps_mono (ps_par hC.calm hC.nd h1 h2 (ne_ix hC h1 h2 hxy) l1 l2 (pa_cons ((sE a hC hS _ _ ha).1 _ rfl) (pa_cons ((sE b hC hS _ _ hb).1 _ rfl) pa_nil (plain_star pv _ _)) (plain_star pu _ _)) (sw2 hk l1 l2 hl hxy (plain_notStar pu) (plain_notStar pv) hf hc)) fun D σ H ⟨G, F, env, fl, R, ev, k⟩ => ?_
  obtain ⟨p, e1, ev⟩ := obind ev
  obtain ⟨q, e2, ev⟩ := obind ev
  obtain ⟨w1, e3, ev⟩ := obind ev
  obtain ⟨w2, e4, ev⟩ := obind ev
  cases ev
  exact two_vals R e1 e2 fun v w H2 F2 R2 E2 q1 q2 => ⟨v, w, rfl, k _ _ _ E2.mono ((R2.setv e3 q1).setv e4 q2)⟩
theorem g_par3 (hC : COk X C Γ n) (hS : SOk X S) {i j l : Nat} {a b c : IE} {x y z : Str} {px py pz tp tp2 pos : Pos} {k1 k2 : Nat} {u v w : Expr} (h1 : X.N[i]? = some x) (h2 : X.N[j]? = some y) (h3 : X.N[l]? = some z) (l1 : S.sc.names.lookup x = some .local) (l2 : S.sc.names.lookup y = some .local) (l3 : S.sc.names.lookup z = some .local)
    (hl : px.line = py.line) (hl2 : px.line = pz.line) (hxy : x ≠ y) (hxz : x ≠ z) (hyz : y ≠ z) (hf : ([u, v, w].all (foldedForSure 8)) = false) (hc : ([u, v, w].all (constantsAlone 8)) = false) (hk : S.sc.kind = .function) (ha : chkE C S a [u] none = true) (hb : chkE C S b [v] none = true) (hw : chkE C S c [w] none = true) :
    PS X (.Assign [.Tuple [.Name x px, .Name y py, .Name z pz] k1 tp] (.Tuple [u, v, w] k2 tp2) pos) (rS X.K Γ C.cons FU (.par3 i j l a b c)) := by
  have pu := chk_plain _ _ _ _ ha
  have pv := chk_plain _ _ _ _ hb
  have pw := chk_plain _ _ _ _ hw
  rw [← hS.sc] at l1 l2 l3 hk
  refine ps_mono (ps_par3 hC.calm hC.nd h1 h2 h3 (ne_ix hC h1 h2 hxy) (ne_ix hC h1 h3 hxz) (ne_ix hC h2 h3 hyz) l1 l2 l3
    (pa_cons ((sE a hC hS _ _ ha).1 _ rfl) (pa_cons ((sE b hC hS _ _ hb).1 _ rfl) (pa_cons ((sE c hC hS _ _ hw).1 _ rfl) pa_nil (plain_star pw _ _)) (plain_star pv _ _)) (plain_star pu _ _)) (sw3 hk l1 l2 l3 hl hl2 hxy hxz hyz (plain_notStar pu) (plain_notStar pv) (plain_notStar pw) hf hc)) fun D σ H ⟨G, F, env, fl, R, ev, k⟩ => ?_
  obtain ⟨p, e1, ev⟩ := obind ev
  obtain ⟨q, e2, ev⟩ := obind ev
  obtain ⟨r, e5, ev⟩ := obind ev
  obtain ⟨w1, e3, ev⟩ := obind ev
  obtain ⟨w2, e4, ev⟩ := obind ev
  obtain ⟨w3, e6, ev⟩ := obind ev
  cases ev
  refine two_vals R e1 e2 fun v w H2 F2 R2 E2 q1 q2 => ⟨G, F2, q.2, r.1, r.2, R2, e5, fun t H3 F3 R3 E3 q3 => ?_⟩
  obtain ⟨F4, R4, E4, k3⟩ := R2.settle R3 E3 q3
  exact ⟨v, w, t, rfl, k _ _ _ (E2.mono.trans E4.mono) (((R4.setv e3 (dpMono E4.mono _ q1)).setv e4 (dpMono E4.mono _ q2)).setv e6 k3)⟩
/-! ### items of a name's list -/
theorem atS_of {env : En} {i : Nat} {xs : List PyData} (h : atS env i = some xs) : ∃ s, env.at i = some s ∧ s.m = some xs := by
  unfold atS at h
  split at h
  · cases h
    exact ⟨_, by assumption, rfl⟩
  · cases h
    exact ⟨_, by assumption, rfl⟩
  · cases h
theorem setS_of {env env' : En} {i : Nat} {ys : List PyData} (h : setS env i ys = some env') : ∃ s s' xs, env.at i = some s ∧ s.m = some xs ∧ s'.m = some ys ∧ isB s' = isB s ∧ env' = env.set i (some s') := by
  unfold setS at h
  split at h
  · rename_i xs h0
    cases h
    exact ⟨.o xs, .o ys, xs, h0, rfl, rfl, rfl, rfl⟩
  · rename_i xs h0
    cases h
    exact ⟨.b xs, .b ys, xs, h0, rfl, rfl, rfl, rfl⟩
  · cases h
theorem ixN_len {m m' : Nat} (h : m = m') (i : Int) : ixN m i = ixN m' i := by rw [h]
theorem g_six (hC : COk X C Γ n) (hS : SOk X S) {i : Nat} {c e : IE} {x : Str} {kx v : Expr} {px sp pos : Pos} (hx : nmS C S i x = true) (hk : chkE C S c [kx] none = true) (hv : chkE C S e [v] none = true) :
    PS X (.Assign [.Subscript (.Name x px) kx sp] v pos) (rS X.K Γ C.cons FU (.six i c e)) := by
  have pv := (sE e hC hS _ _ hv).1 _ rfl
  have pk := h_of hC hS hk ((sE c hC hS _ _ hk).1 _ rfl)
  have pl := chk_plain _ _ _ _ hv
  have pk2 := chk_plain _ _ _ _ hk
  refine ps_mono (ps_asg pv (pg_sub (pe_nm (p := px) hC hS hx) pk set_list (by cases kx <;> first | exact absurd pk2 Bool.false_ne_true | (intro _; rfl))) (by cases v <;> first | exact absurd pl Bool.false_ne_true | rfl)) fun D σ H ⟨G, F, env, fl, R, ev, k⟩ => ?_
  obtain ⟨p, e1, ev⟩ := obind ev
  obtain ⟨hm, ev⟩ := oite ev
  obtain ⟨q, e2, ev⟩ := obind ev
  obtain ⟨y, e3, ev⟩ := obind ev
  refine ⟨G, F, env, p.1, p.2, R, e1, fun w H1 F1 R1 E1 q1 => ?_⟩
  obtain ⟨F2, R2, E2, q2⟩ := R.settle R1 E1 q1
  obtain ⟨s0, xs0, a0, b0⟩ := mutAt_of hm
  obtain ⟨pa, vs0, g0, _⟩ := R2.mu i s0 xs0 a0 b0
  refine ⟨.ref pa, g0, G, F2, p.2, q.1, q.2, R2, e2, fun u H3 F3 R3 E3 q3 => ?_⟩
  split at ev
  · obtain ⟨xs, e4, ev⟩ := obind ev
    obtain ⟨j, e5, ev⟩ := obind ev
    obtain ⟨e', e6, ev⟩ := obind ev
    cases ev
    cases opd_int (q3.opd R3 e3)
    obtain ⟨s, a1, b1⟩ := atS_of e4
    obtain ⟨pb, vs, g1, f1, h1, dq, _⟩ := R3.mu i s xs a1 b1
    rw [g0] at g1
    cases g1
    obtain ⟨s2, s', xs2, a2, b2, b3, b4, rfl⟩ := setS_of e6
    refine ⟨pa, vs, _, j, rfl, rfl, h1, by rw [dpAll_len dq]; exact e5, ?_⟩
    obtain ⟨R4, E4⟩ := R3.change (s' := s') a2 b2 g0 h1 b3 b4 (dpAll_set (dpMono E3.mono _ q2) j dq)
    exact k _ _ _ ((E2.trans E3).trans E4).mono R4
  · cases ev
/-! ### += -/
def qAug (K : PySem.W.Frag) (op : Operator) : TIp := fun x y H Q => ∃ F a b r, Same F H ∧ Opd K F H x a ∧ Opd K F H y b ∧ augD op a b = some r ∧ ∀ v, Dq K F v r → Q v H
theorem ip_aug (op : Operator) : PIp X op (qAug X.K op) := by
  intro pins s σ H x y v u Q I rx ry h
  obtain ⟨F, a, b, r, sm, oa, ob, e, m⟩ := h
  unfold augD at e
  split at e
  · cases e
    cases opd_int oa
    cases opd_int ob
    exact iop_add pins s σ H _ _ v u Q I rx ry ⟨_, _, rfl, rfl, m _ (.int _)⟩
  · cases e
    cases opd_int oa
    cases opd_int ob
    exact iop_sub pins s σ H _ _ v u Q I rx ry ⟨_, _, rfl, rfl, m _ (.int _)⟩
  · obtain ⟨hc, e⟩ := oite e
    cases e
    cases opd_int oa
    cases opd_int ob
    exact iop_fdivW pins s σ H _ _ v u Q I rx ry ⟨_, _, rfl, rfl, hc, m _ (.int _)⟩
  · obtain ⟨hc, e⟩ := oite e
    cases e
    cases opd_str oa
    cases opd_str ob
    exact iop_add_str pins s σ H _ _ v u Q I rx ry ⟨_, _, rfl, rfl, hc, m _ (.str _)⟩
  · cases e
theorem g_aug (hC : COk X C Γ n) (hS : SOk X S) {i : Nat} {op : Operator} {e : IE} {x : Str} {v : Expr} {px pos : Pos} (ht : tgS C S i x = true) (hv : chkE C S e [v] none = true) : PS X (.AugAssign (.Name x px) op v pos) (rS X.K Γ C.cons FU (.aug i op e)) := by
  obtain ⟨t1, t2, t3⟩ := tg_of hC hS ht
  have pv := h_of hC hS hv ((sE e hC hS _ _ hv).1 _ rfl)
  refine ps_mono (ps_aug hC.nd t1 t2 pv (ip_aug op) t3) fun D σ H ⟨G, F, env, fl, R, ev, k⟩ => ?_
  obtain ⟨p, e1, ev⟩ := obind ev
  split at ev
  · rename_i x0 a0
    obtain ⟨y, e2, ev⟩ := obind ev
    obtain ⟨d, e3, ev⟩ := obind ev
    obtain ⟨e', e4, ev⟩ := obind ev
    cases ev
    obtain ⟨w, g0, q0⟩ := R.val i _ a0
    exact ⟨w, g0, G, F, env, p.1, p.2, R, e1, fun u H1 F1 R1 E1 q1 => ⟨F1, _, _, _, R1.sub, .inl (dpMono E1.mono _ q0), q1.opd R1 e2, e3, fun z qz => k _ _ _ E1.mono (R1.setv e4 qz)⟩⟩
  · cases ev
def qGet (K : PySem.W.Frag) : V → V → Hp → VK → Prop := fun o i H Q => ∃ p xs z v, o = .ref p ∧ i = .int z ∧ SqL K H p xs ∧ atI xs z = some v ∧ Q v H
theorem get_list : PGet X (qGet X.K) := by
  intro pins s σ H o i ov iv Q I r1 r2 h
  obtain ⟨p, xs, z, v, rfl, rfl, hq, he, q⟩ := h
  cases r1
  obtain ⟨t, rfl⟩ := r2
  obtain ⟨its, r, pl, hz⟩ := I.list hq
  obtain ⟨j, h1, h2, h3, h4, h5⟩ := atI_get he
  obtain ⟨w, ew, rw'⟩ := r.get h2
  have hl := r.length
  have hn := line63
  by_cases h0 : 0 ≤ z
  · rw [seqIndex_of h0 h5] at h1
    have hj := Option.some.inj h1
    exact wpAny_getItem_list pl.isList h0 (by omega) (x := w) (by rw [hj]; simpa using ew) ⟨v, H, I, rw', q⟩
  · rw [seqIndex_neg (by omega) h4] at h1
    have hj := Option.some.inj h1
    refine wpAny_getItem_list_neg pl.isList (by omega) (by rw [List.size_toArray]; omega) (by omega) (x := w) ?_ ⟨v, H, I, rw', q⟩
    rw [List.size_toArray, ← hl, hj]
    simpa using ew
theorem g_aix (hC : COk X C Γ n) (hS : SOk X S) {i : Nat} {op : Operator} {c e : IE} {x : Str} {kx v : Expr} {px sp pos : Pos} (hx : nmS C S i x = true) (hk : chkE C S c [kx] none = true) (hv : chkE C S e [v] none = true) :
    PS X (.AugAssign (.Subscript (.Name x px) kx sp) op v pos) (rS X.K Γ C.cons FU (.aix i c op e)) := by
  have pv := h_of hC hS hv ((sE e hC hS _ _ hv).1 _ rfl)
  have pk := h_of hC hS hk ((sE c hC hS _ _ hk).1 _ rfl)
  have pl := chk_plain _ _ _ _ hk
  refine ps_mono (ps_augS (pe_nm (p := px) hC hS hx) pk get_list pv (ip_aug op) set_list (by cases kx <;> first | exact absurd pl Bool.false_ne_true | (intros; rfl))) fun D σ H ⟨G, F, env, fl, R, ev, k⟩ => ?_
  obtain ⟨hm, ev⟩ := oite ev
  obtain ⟨p, e1, ev⟩ := obind ev
  obtain ⟨y, e2, ev⟩ := obind ev
  obtain ⟨s0, xs0, a0, b0⟩ := mutAt_of hm
  obtain ⟨pa, vs0, g0, _⟩ := R.mu i s0 xs0 a0 b0
  refine ⟨.ref pa, g0, G, F, env, p.1, p.2, R, e1, fun u H1 F1 R1 E1 q1 => ?_⟩
  split at ev
  · obtain ⟨xs, e3, ev⟩ := obind ev
    obtain ⟨j, e4, ev⟩ := obind ev
    obtain ⟨old, e5, ev⟩ := obind ev
    obtain ⟨q, e6, ev⟩ := obind ev
    obtain ⟨w, e7, ev⟩ := obind ev
    obtain ⟨d, e8, ev⟩ := obind ev
    obtain ⟨ys, e9, ev⟩ := obind ev
    obtain ⟨j', e10, ev⟩ := obind ev
    obtain ⟨e', e11, ev⟩ := obind ev
    cases ev
    cases opd_int (q1.opd R1 e2)
    obtain ⟨s, a1, b1⟩ := atS_of e3
    obtain ⟨pb, vs, g1, f1, h1, dq, _⟩ := R1.mu i s xs a1 b1
    rw [g0] at g1
    cases g1
    obtain ⟨ov, ho, qo⟩ := dpAll_get dq e5
    refine ⟨pa, vs, _, ov, rfl, rfl, .inl (.inl h1), ?_, G, F1, p.2, q.1, q.2, R1, e6, fun t H2 F2 R2 E2 q2 => ?_⟩
    · unfold atI
      rw [dpAll_len dq, e4]
      exact ho
    · refine ⟨F2, old, w, d, R2.sub, .inl (dpMono E2.mono _ qo), q2.opd R2 e7, e8, fun z qz => ?_⟩
      obtain ⟨s', a3, b3⟩ := atS_of e9
      obtain ⟨pc, vs', g3, f3, h3, dq3, _⟩ := R2.mu i s' ys a3 b3
      rw [g0] at g3
      cases g3
      obtain ⟨s2, s'', xs2, a2, b2, c3, c4, rfl⟩ := setS_of e11
      refine ⟨pa, vs', _, j', rfl, rfl, h3, by rw [dpAll_len dq3]; exact e10, ?_⟩
      obtain ⟨R4, E4⟩ := R2.change (s' := s'') a2 b2 g0 h3 c3 c4 (dpAll_set qz j' dq3)
      exact k _ _ _ ((E1.trans E2).trans E4).mono R4
  · cases ev
end
end PF

/-! PF12: the soundness of statements and blocks; defs. -/
namespace PF
open PySem PySem.Spec PyProof.Rows L2
section
variable {X : Cx} {C : Cfg} {S : Sc} {Γ : Tab} {n FU : Nat}
theorem rt_of {K : PySem.W.Frag} {G : Gh} {σ : L2.St} {H F H' F' : Hp} {env : En} {v : V} {r : Sl} (R : Rel K G σ H F env) (q : RV K H H' F' v r) : RT K G H' F' v r := by
  cases r with
  | v d => exact q
  | b ds => exact q
  | o ds =>
    obtain ⟨p, vs, e, h1, h2, h3, h4⟩ := q
    refine ⟨p, vs, e, ?_, h2, h3, h4⟩
    cases z : G.H0 p with
    | none => rfl
    | some o => exact absurd h1 (R.live p (by rw [z]; simp))
theorem g_ret {e : IE} {v : Expr} {pos : Pos} (hv : PE X v (rE X.K Γ C.cons e)) : PS X (.Return (some v) pos) (rS X.K Γ C.cons FU (.ret e)) :=
  ps_mono (ps_ret hv) fun D σ H ⟨G, F, env, fl, R, ev, k⟩ => by
    obtain ⟨p, e1, ev⟩ := obind ev
    cases ev
    exact ⟨G, F, env, p.1, p.2, R, e1, fun w H1 F1 R1 E1 q1 => k _ _ _ _ E1.mono R1 (rt_of R q1)⟩
theorem Rel.drop {K : PySem.W.Frag} {G : Gh} {σ : L2.St} {H F : Hp} {env : En} (R : Rel K G σ H F env) (i : Nat) : Rel K G σ H F (env.set i none) := by
  have key : ∀ j s, En.at (env.set i none) j = some s → env.at j = some s := fun j s e => by
    rw [at_set] at e
    split at e
    · cases e
    · exact e
  refine ⟨by rw [List.length_set]; exact R.len, R.sub, R.base, R.fro, R.live, R.new, fun j d e => R.val j d (key j _ e), fun j s ds e => R.mu j s ds (key j _ e), fun j k p n ⟨s, ds, e, m⟩ ⟨s', ds', e', m'⟩ => R.apart j k p n ⟨s, ds, key j _ e, m⟩ ⟨s', ds', key k _ e', m'⟩⟩
theorem g_retx (hC : COk X C Γ n) (hS : SOk X S) {i : Nat} {x : Str} {px pos : Pos} (h : nmS C S i x = true) : PS X (.Return (some (.Name x px)) pos) (rS X.K Γ C.cons FU (.retx i)) :=
  ps_mono (ps_ret (pe_nm hC hS h)) fun D σ H ⟨G, F, env, fl, R, ev, k⟩ => by
    have ev : (match env.at i with
      | some (.o ds) => some (Fl.rt (.o ds) (env.set i none))
      | some (.v d) => some (Fl.rt (.v d) env)
      | _ => none) = some fl := ev
    split at ev
    · rename_i ds e0
      cases ev
      obtain ⟨p, vs, a, f, hp, q, b1, _⟩ := R.mu i _ ds e0 rfl
      exact ⟨_, a, k _ _ _ _ (Same.refl _) (R.drop i) ⟨p, vs, rfl, b1 rfl, f, hp, q⟩⟩
    · rename_i d e0
      cases ev
      obtain ⟨v, a, q⟩ := R.val i d e0
      exact ⟨_, a, k _ _ _ _ (Same.refl _) R q⟩
    · cases ev
theorem g_ex {e : IE} {v : Expr} {pos : Pos} (hv : PE X v (rE X.K Γ C.cons e)) (hn : notComp v = true) : PS X (.Expr v pos) (rS X.K Γ C.cons FU (.ex e)) :=
  ps_mono (ps_expr hv (by cases v <;> first | exact absurd hn Bool.false_ne_true | rfl)) fun D σ H ⟨G, F, env, fl, R, ev, k⟩ => by
    obtain ⟨p, e1, ev⟩ := obind ev
    cases ev
    exact ⟨G, F, env, p.1, p.2, R, e1, fun w H1 F1 R1 E1 q1 => k _ _ _ E1.mono R1⟩
theorem g_cond {t : IT} {a b : IB} {z : Expr} {x y : List Stmt} {pos : Pos} (ht : PT X z (rT X.K Γ C.cons t)) (ha : PSs X x (rB X.K Γ C.cons FU a)) (hb : PSs X y (rB X.K Γ C.cons FU b)) : PS X (.If z x y pos) (rS X.K Γ C.cons FU (.cond t a b)) :=
  ps_mono (ps_if ht ha hb) fun D σ H ⟨G, F, env, fl, R, ev, k⟩ => by
    obtain ⟨p, e1, ev⟩ := obind ev
    refine ⟨G, F, env, p.1, p.2, R, e1, fun H1 F1 R1 E1 => ?_⟩
    cases hp : p.1 with
    | true =>
      rw [if_pos hp] at ev
      exact iteT ⟨G, F1, p.2, fl, R1, ev, k.mono E1.mono⟩
    | false =>
      rw [if_neg (by rw [hp]; exact Bool.false_ne_true)] at ev
      exact iteF ⟨G, F1, p.2, fl, R1, ev, k.mono E1.mono⟩
theorem g_for (hC : COk X C Γ n) (hx : X.xe = fun _ _ => False) {g : IG} {it : II} {b : IB} {tg iter : Expr} {body : List Stmt} {pos : Pos} (hi : PI X tg iter (rI X.K Γ C.cons it)) (hg : PG X tg (rG X.K g)) (hb : PSs X body (rB X.K Γ C.cons FU b)) (hf : ∀ x, foldedSetIterable iter X.env x = pure x) :
    PS X (.For tg iter body [] pos) (rS X.K Γ C.cons FU (.for g it b)) := by
  refine ps_mono (ps_for (by rw [hx]; exact PassesOwn.never) hC.calm hi hg hb hf) fun D σ H ⟨G, F, env, fl, R, ev, k⟩ => ?_
  obtain ⟨p, e1, ev⟩ := obind ev
  refine ⟨G, F, env, p.1, p.2, R, e1, fun J H1 F1 R1 E1 wd => ?_⟩
  obtain ⟨Gd, Y, wk, wG, wY⟩ := wd.ex
  refine for_it wk (fun i σ2 H2 => ∃ F2 en, Rel X.K G σ2 H2 F2 en ∧ Same F1 F2 ∧ forD (fun d en => (runG g d en).bind fun en1 => runB Γ C.cons FU b en1) (p.1.drop i) en = some fl) ⟨F1, p.2, R1, Same.refl _, ev⟩ ?_ ?_ ?_
  · rintro i σ2 H2 _ ⟨F2, en, R2, m2, _⟩
    exact wG H2 (m2.trans R2.sub)
  · rintro i x σ2 H2 H3 hi2 ⟨F2, en, R2, m2, hc⟩ y
    obtain ⟨F3, m1, m3, m4, fr, d, hd, qd⟩ := wY i H2 x H3 F2 hi2 y m2 R2.sub
    obtain ⟨R3, E3⟩ := R2.grow m1 m3 m4 fr
    have hdr : p.1.drop i = d :: p.1.drop (i + 1) := by
      rw [List.drop_eq_getElem_cons hi2]
      rw [List.getElem?_eq_getElem hi2] at hd
      cases hd
      rfl
    rw [hdr] at hc
    obtain ⟨f, hf2, hc⟩ := obind hc
    obtain ⟨en1, eg, eb⟩ := obind hf2
    refine ⟨G, F3, en, d, en1, R3, qd, eg, fun σ4 R4 _ _ _ => ⟨G, F3, en1, f, R4, eb, ?_⟩⟩
    cases f with
    | nx e => exact fun σ5 H5 F5 m5 R5 => ⟨F5, e, R5, (m2.trans m1).trans m5, hc⟩
    | ct e => exact fun σ5 H5 F5 m5 R5 => ⟨F5, e, R5, (m2.trans m1).trans m5, hc⟩
    | bk e =>
      cases hc
      exact fun σ5 H5 F5 m5 R5 => k σ5 H5 F5 (((E1.mono.trans m2).trans m1).trans m5) R5
    | rt r e =>
      cases hc
      exact fun v σ5 H5 F5 m5 R5 q5 => k v σ5 H5 F5 (((E1.mono.trans m2).trans m1).trans m5) R5 q5
  · rintro σ2 H2 ⟨F2, en, R2, m2, hc⟩
    rw [List.drop_length] at hc
    cases hc
    exact k σ2 H2 F2 (E1.mono.trans m2) R2
theorem g_wh (hx : X.xe = fun _ _ => False) {t : IT} {b : IB} {z : Expr} {body : List Stmt} {pos : Pos} (ht : PT X z (rT X.K Γ C.cons t)) (hb : PSs X body (rB X.K Γ C.cons FU b)) : PS X (.While z body [] pos) (rS X.K Γ C.cons FU (.wh t b)) := by
  refine ps_mono (ps_while (by rw [hx]; exact PassesOwn.never) ht hb) fun D σ H ⟨G, F, env, fl, R, ev, k⟩ => ?_
  refine ⟨fun m σ2 H2 => ∃ F2 en, Rel X.K G σ2 H2 F2 en ∧ Same F F2 ∧ whileD (fun en => runT Γ C.cons t en) (fun en => runB Γ C.cons FU b en) m en = some fl, ⟨FU, F, env, R, Same.refl _, ev⟩, ?_⟩
  rintro m σ2 H2 ⟨F2, en, R2, m2, hc⟩
  cases m with
  | zero => cases hc
  | succ m =>
    obtain ⟨p, e1, hc⟩ := obind hc
    refine ⟨G, F2, en, p.1, p.2, R2, e1, fun H3 F3 R3 E3 => ?_⟩
    cases hp : p.1 with
    | false =>
      rw [if_neg (by rw [hp]; exact Bool.false_ne_true)] at hc
      cases hc
      exact iteF (k σ2 H3 F3 (m2.trans E3.mono) R3)
    | true =>
      rw [if_pos hp] at hc
      obtain ⟨f, ef, hc⟩ := obind hc
      refine iteT ⟨_, fun σ' H' w => ⟨m, Nat.lt_succ_self m, w⟩, G, F3, p.2, f, R3, ef, ?_⟩
      cases f with
      | nx e => exact fun σ5 H5 F5 m5 R5 => ⟨F5, e, R5, (m2.trans E3.mono).trans m5, hc⟩
      | ct e => exact fun σ5 H5 F5 m5 R5 => ⟨F5, e, R5, (m2.trans E3.mono).trans m5, hc⟩
      | bk e =>
        cases hc
        exact fun σ5 H5 F5 m5 R5 => k σ5 H5 F5 ((m2.trans E3.mono).trans m5) R5
      | rt r e =>
        cases hc
        exact fun v σ5 H5 F5 m5 R5 q5 => k v σ5 H5 F5 ((m2.trans E3.mono).trans m5) R5 q5
theorem b_nil : PSs X [] (rB X.K Γ C.cons FU .nil) := pss_mono pss_nil fun D σ H ⟨G, F, env, fl, R, ev, k⟩ => by
  cases ev
  exact k σ H F (Same.refl _) R
theorem b_cons {s : IS} {r : IB} {z : Stmt} {zs : List Stmt} (h1 : PS X z (rS X.K Γ C.cons FU s)) (h2 : PSs X zs (rB X.K Γ C.cons FU r)) : PSs X (z :: zs) (rB X.K Γ C.cons FU (.cons s r)) :=
  pss_mono (pss_cons h1 h2) fun D σ H ⟨G, F, env, fl, R, ev, k⟩ => by
    obtain ⟨f, e1, ev⟩ := obind ev
    refine ⟨G, F, env, f, R, e1, ?_⟩
    cases f with
    | nx e => exact fun σ' H' F' m R' => ⟨G, F', e, fl, R', ev, k.mono m⟩
    | bk e =>
      cases ev
      exact k
    | ct e =>
      cases ev
      exact k
    | rt r e =>
      cases ev
      exact k
end
theorem notT {b : Bool} (h : (!b) = true) : b = false := by
  cases b with
  | true => exact absurd h Bool.false_ne_true
  | false => rfl
mutual
theorem sS {C : Cfg} {Γ : Tab} {n FU : Nat} {X : Cx} {S : Sc} (hC : COk X C Γ n) (hS : SOk X S) (hx : X.xe = fun _ _ => False) : ∀ (s : IS) (z : Stmt), chkS C S s z = true → PS X z (rS X.K Γ C.cons FU s)
  | .set i e, z, h => by
    unfold chkS at h
    split at h
    · obtain ⟨h1, h2⟩ := and2 h
      exact g_set hC hS h1 h2
    · cases h
  | .tgt gs e, z, h => by
    unfold chkS at h
    split at h
    · obtain ⟨h1, h2, h3⟩ := and3 h
      exact g_tgt hC hS h1 h2 (by simpa using h3)
    · cases h
  | .par2 i j a b, z, h => by
    unfold chkS at h
    split at h
    · obtain ⟨h, h11⟩ := and2 h
      obtain ⟨h, h10⟩ := and2 h
      obtain ⟨h, h9⟩ := and2 h
      obtain ⟨h, h8⟩ := and2 h
      obtain ⟨h, h7⟩ := and2 h
      obtain ⟨h, h6⟩ := and2 h
      obtain ⟨h, h5⟩ := and2 h
      obtain ⟨h, h4⟩ := and2 h
      obtain ⟨h1, h2, h3⟩ := and3 h
      exact g_par2 hC hS (by rw [hC.N]; exact of_decide_eq_true h1) (by rw [hC.N]; exact of_decide_eq_true h2) (of_decide_eq_true h3) (of_decide_eq_true h4) (of_decide_eq_true h5) (of_decide_eq_true h6) (notT h7) (notT h8) (of_decide_eq_true h9) h10 h11
    · cases h
  | .par3 i j l a b c, z, h => by
    unfold chkS at h
    split at h
    · obtain ⟨h, g17⟩ := and2 h
      obtain ⟨h, g16⟩ := and2 h
      obtain ⟨h, g15⟩ := and2 h
      obtain ⟨h, g14⟩ := and2 h
      obtain ⟨h, g13⟩ := and2 h
      obtain ⟨h, g12⟩ := and2 h
      obtain ⟨h, g11⟩ := and2 h
      obtain ⟨h, g10⟩ := and2 h
      obtain ⟨h, g9⟩ := and2 h
      obtain ⟨h, g8⟩ := and2 h
      obtain ⟨h, g7⟩ := and2 h
      obtain ⟨h, g6⟩ := and2 h
      obtain ⟨h, g5⟩ := and2 h
      obtain ⟨h, g4⟩ := and2 h
      obtain ⟨g1, g2, g3⟩ := and3 h
      exact g_par3 hC hS (by rw [hC.N]; exact of_decide_eq_true g1) (by rw [hC.N]; exact of_decide_eq_true g2) (by rw [hC.N]; exact of_decide_eq_true g3) (of_decide_eq_true g4) (of_decide_eq_true g5) (of_decide_eq_true g6) (of_decide_eq_true g7) (of_decide_eq_true g8)
        (of_decide_eq_true g9) (of_decide_eq_true g10) (of_decide_eq_true g11) (notT g12) (notT g13) (of_decide_eq_true g14) g15 g16 g17
    · cases h
  | .six i k e, z, h => by
    unfold chkS at h
    split at h
    · obtain ⟨h1, h2, h3⟩ := and3 h
      exact g_six hC hS h1 h2 h3
    · cases h
  | .aug i op e, z, h => by
    unfold chkS at h
    split at h
    · obtain ⟨h1, h2, h3⟩ := and3 h
      cases of_decide_eq_true h2
      exact g_aug hC hS h1 h3
    · cases h
  | .aix i k op e, z, h => by
    unfold chkS at h
    split at h
    · obtain ⟨h, h4⟩ := and2 h
      obtain ⟨h1, h2, h3⟩ := and3 h
      cases of_decide_eq_true h3
      exact g_aix hC hS h1 h2 h4
    · cases h
  | .ret e, z, h => by
    unfold chkS at h
    split at h
    · exact g_ret ((sE e hC hS _ _ h).1 _ rfl)
    · cases h
  | .retx i, z, h => by
    unfold chkS at h
    split at h
    · exact g_retx hC hS h
    · cases h
  | .retn, z, h => by
    unfold chkS at h
    split at h
    · exact ps_mono ps_retN fun D σ H ⟨G, F, env, fl, R, ev, k⟩ => by
        cases ev
        exact k _ _ _ _ (Same.refl _) R .non
    · cases h
  | .ex e, z, h => by
    unfold chkS at h
    split at h
    · obtain ⟨h1, h2⟩ := and2 h
      exact g_ex ((sE e hC hS _ _ h1).1 _ rfl) h2
    · cases h
  | .cond t a b, z, h => by
    unfold chkS at h
    split at h
    · obtain ⟨h1, h2, h3⟩ := and3 h
      exact g_cond ((sT t hC hS _ _ h1).1 _ rfl) (sB hC hS hx a _ h2) (sB hC hS hx b _ h3)
    · cases h
  | .for g it b, z, h => by
    unfold chkS at h
    split at h
    · obtain ⟨h1, h2, h3⟩ := and3 h
      exact g_for hC hx (sI it hC hS _ _ h1) (sG hC hS g _ h2) (sB hC hS hx b _ h3) (fun x => chkI_folded it h1 X.env x)
    · cases h
  | .wh t b, z, h => by
    unfold chkS at h
    split at h
    · obtain ⟨h1, h2⟩ := and2 h
      exact g_wh hx ((sT t hC hS _ _ h1).1 _ rfl) (sB hC hS hx b _ h2)
    · cases h
  | .brk, z, h => by
    unfold chkS at h
    split at h
    · exact ps_mono ps_break fun D σ H ⟨G, F, env, fl, R, ev, k⟩ => by
        cases ev
        exact k _ _ _ (Same.refl _) R
    · cases h
  | .cnt, z, h => by
    unfold chkS at h
    split at h
    · exact ps_mono ps_continue fun D σ H ⟨G, F, env, fl, R, ev, k⟩ => by
        cases ev
        exact k _ _ _ (Same.refl _) R
    · cases h
  | .pass, z, h => by
    unfold chkS at h
    split at h
    · exact ps_mono ps_pass fun D σ H ⟨G, F, env, fl, R, ev, k⟩ => by
        cases ev
        exact k _ _ _ (Same.refl _) R
    · cases h
theorem sB {C : Cfg} {Γ : Tab} {n FU : Nat} {X : Cx} {S : Sc} (hC : COk X C Γ n) (hS : SOk X S) (hx : X.xe = fun _ _ => False) : ∀ (b : IB) (zs : List Stmt), chkB C S b zs = true → PSs X zs (rB X.K Γ C.cons FU b)
  | .nil, zs, h => by
    cases zs with
    | nil => exact b_nil
    | cons _ _ => exact absurd h Bool.false_ne_true
  | .cons s r, zs, h => by
    cases zs with
    | nil => exact absurd h Bool.false_ne_true
    | cons z zs =>
      obtain ⟨h1, h2⟩ := and2 h
      exact b_cons (sS hC hS hx s z h1) (sB hC hS hx r zs h2)
end
end PF

/-! PF13: a def of the text does what runFn tells; the whole program; the law's end. -/
namespace PF
open PySem PySem.Spec PyProof.Rows L2
/-- the names, the parameters first -/
def scopeOk (N ps : List Str) (sc : Scope) : Bool :=
  decide (sc.kind = .function) && !sc.isCoroutine && !sc.isGenerator && decide N.Nodup && decide (N.take ps.length = ps) && (ps.all fun x => match sc.names.lookup x with
    | some .local => true
    | some .cell => true
    | _ => false) && (sc.names.all fun y => decide (y.2 ≠ .free))
theorem scope_of {N ps : List Str} {sc : Scope} (h : scopeOk N ps sc = true) : FnScope N ps sc := by
  unfold scopeOk at h
  obtain ⟨h, h7⟩ := and2 h
  obtain ⟨h, h6⟩ := and2 h
  obtain ⟨h, h5⟩ := and2 h
  obtain ⟨h, h4⟩ := and2 h
  obtain ⟨h1, h2, h3⟩ := and3 h
  refine ⟨of_decide_eq_true h1, notT h2, notT h3, of_decide_eq_true h4, of_decide_eq_true h5, fun x hx => ?_, fun y hy => of_decide_eq_true (List.all_eq_true.mp h7 y hy)⟩
  have := List.all_eq_true.mp h6 x hx
  split at this
  · exact .inl (by assumption)
  · exact .inr (by assumption)
  · cases this
def plainArgs (ps : List Str) (a : Arguments) : Bool := a.posonlyargs.isEmpty && decide (a.args.map (·.arg) = ps) && a.vararg.isNone && a.kwonlyargs.isEmpty && a.kw_defaults.isEmpty && a.kwarg.isNone && a.defaults.isEmpty
/-- a def of the text is this one of the small language -/
def chkD (fns : List Str) (cons : List (Str × PyData)) (f : Fn) (st : Stmt) : Bool :=
  scopeOk f.N f.ps (defScope st) && chkB ⟨f.N, fns, cons⟩ ⟨defScope st, fun _ => true⟩ f.body (defBody st)
section
variable {K : PySem.W.Frag}
theorem start_at {vs : List V} {as : List Sl} {m : Nat} (i : Nat) : (startE m as).at i = as[i]? := by
  unfold startE En.at
  rw [List.getElem?_append, List.length_map]
  split
  · rename_i h
    rw [List.getElem?_map, List.getElem?_eq_getElem h]
    rfl
  · rename_i h
    rw [List.getElem?_replicate, List.getElem?_eq_none (by omega)]
    split <;> rfl
theorem paired_get' {α β : Type} {R : α → β → Prop} : ∀ {l : List α} {m : List β} {i : Nat} {b : β}, Paired R l m → m[i]? = some b → ∃ a, l[i]? = some a ∧ R a b
  | _, _, _, _, .nil, h => by simp at h
  | _, _, 0, _, .cons a t, h => by
    cases h
    exact ⟨_, rfl, a⟩
  | _, _, i + 1, b, .cons a t, h => by
    obtain ⟨x, e, q⟩ := paired_get' (i := i) t (by simpa using h)
    exact ⟨x, by simpa using e, q⟩
theorem outA_at : ∀ (as : List Sl) (env : En) (l : List PyData), outA as env = some l → ∀ i d, as[i]? = some (.b d) → (∀ (i j : Nat) (d e : List PyData), as[i]? = some (.b d) → as[j]? = some (.b e) → i = j) → env.at i = some (.b l)
  | [], _, _, _, i, d, h, _ => by simp at h
  | .v z :: r, env, l, e, i, d, h, u => by
    cases i with
    | zero => cases h
    | succ i =>
      have := outA_at r env.tail l e i d h fun i j d e a b => by
        have := u (i + 1) (j + 1) d e a b
        omega
      unfold En.at at this ⊢
      rw [List.getElem?_tail] at this
      exact this
  | .o _ :: _, _, _, e, _, _, _, _ => by cases e
  | .b z :: r, env, l, e, i, d, h, u => by
    have h0 := u 0 i z d rfl h
    subst h0
    have e : (match (env.head?).join with
      | some (.b ds) => some ds
      | _ => none) = some l := e
    split at e
    · rename_i ds hd
      cases e
      unfold En.at
      rw [← List.head?_eq_getElem?]
      exact hd
    · cases e
end
/-- THE DEF: it does what runFn tells -/
theorem fn_G {P : Program} {w : World} {K : PySem.W.Frag} {mg : Str → Option Value} {base : Heap} {fns : List Str} {cons : List (Str × PyData)} {f : Fn} {st : Stmt} {qual : Str} {a : Addr} {fd : FuncData} {Γ : Tab} {n FU : Nat}
    (FF : Fun K f.name qual st a fd) (hc : chkD fns cons f st = true) (hblt : ∀ x ∈ blts, mg x = none) (hcons : ∀ x d, cons.lookup x = some d → ∃ u v, mg x = some u ∧ RelV v u ∧ ∀ F, Dq K F v d)
    (hfns : ∀ g x, fns[g]? = some x → ∃ b, mg x = some (.ref b) ∧ FnP P w K mg base n b (Γ g)) :
    FnG P w K mg base (n + 1) a fd f.ps (runFn Γ cons FU f) := by
  unfold chkD at hc
  obtain ⟨hc1, hc2⟩ := and2 hc
  have SC := scope_of hc1
  obtain ⟨oc, od, kV, doc, pm, an, cdv, ct, osl, rfl, lk, hcd⟩ := FF.ex
  have hlen : ∀ as r, runFn Γ cons FU f as = some r → as.length = f.ps.length := fun as r e => by
    unfold runFn at e
    exact (oite e).1
  refine ⟨hlen, fun A outer s H args us vs Q hr hg e0 hb rv hsp => ?_⟩
  obtain ⟨F, as, r, l, sm, pa, uni, eg, post⟩ := hsp
  have hl : vs.length = f.ps.length := by rw [paired_len pa, hlen as _ eg]
  have KX : K.In s.heap := e0.mod.kin.keeps fun b o e => (e0.bs b o e).1
  have lim : s.heap.NoLimit := e0.mod.nolimit.keeps fun b o e => (e0.bs b o e).1
  have hkind : ∀ y ∈ f.ps.zip us, (defScope st).names.lookup y.1 = some .local ∨ ((defScope st).names.lookup y.1 = some .cell ∧ ((cellsFrom (s.heap.objs.size + 1) (defScope st).names []).lookup y.1).isSome = true) := fun ⟨m, v⟩ hy => by
    rcases SC.par m (List.of_mem_zip hy).1 with q | q
    · exact .inl q
    · exact .inr ⟨q, PySem.W.cellsFrom_some _ _ _ (.inl q)⟩
  refine codeAny_call_function hr.depth (KX _ _ lk) rfl SC.co SC.gen rfl (PySem.W.codeRec_of KX hcd) (hb _ _ _ _ ?_)
  refine wpAny_newFunctionEnv_cells SC.kind hkind fun env he s1 x => ?_
  subst he
  refine ⟨lim.keeps x.toInCall.keep, codeAny_func ?_⟩
  have I : L2.Inv (cxOf CX0 P w K mg base f.N qual (defScope st) a cdv A outer s H E0) [] (L2.start f.N vs) H s1 := inv_start SC hr.hd e0 hl rv x
  -- the context without exceptions
  have hC : COk (cxOf CX0 P w K mg base f.N qual (defScope st) a cdv A outer s H E0).nox ⟨f.N, fns, cons⟩ Γ n :=
    ⟨rfl, rfl, SC.nd, hr.deeper _, hg, hblt, hcons, hfns⟩
  have hS : SOk (cxOf CX0 P w K mg base f.N qual (defScope st) a cdv A outer s H E0).nox ⟨defScope st, fun _ => true⟩ := ⟨rfl, fun _ _ => rfl⟩
  have body := (sB (FU := FU) hC hS rfl f.body (defBody st) hc2).nox
  -- the entry
  unfold runFn at eg
  obtain ⟨hal, eg⟩ := oite eg
  obtain ⟨fl, ef, eg⟩ := obind eg
  have hps : f.ps.length ≤ f.N.length := by
    have := congrArg List.length SC.pre
    rw [List.length_take] at this
    omega
  have hσ : ∀ (i : Nat) (v : V), vs[i]? = some v → (L2.start f.N vs)[i]? = some (some v) := fun i v e => by
    have hi : i < vs.length := (List.getElem?_eq_some_iff.mp e).1
    unfold L2.start
    rw [List.getElem?_append_left (by rw [List.length_map]; exact hi), List.getElem?_map, e]
    rfl
  have R : Rel K ⟨H, F, fun i p => ∃ d, as[i]? = some (.b d) ∧ vs[i]? = some (.ref p)⟩ (L2.start f.N vs) H F (startE f.N.length as) := by
    refine ⟨?_, sm, Same.refl _, fun b o e _ => e, fun b e => e, fun b e => .inl e, fun i d e => ?_, fun i t ds e hm => ?_, fun i j p ne z1 z2 _ _ => ?_⟩
    · unfold startE L2.start
      rw [List.length_append, List.length_map, List.length_replicate, List.length_append, List.length_map, List.length_replicate, paired_len pa]
    · rw [start_at (vs := vs)] at e
      obtain ⟨v, ev, q⟩ := paired_get' pa e
      exact ⟨v, hσ i v ev, q⟩
    · rw [start_at (vs := vs)] at e
      obtain ⟨v, ev, q⟩ := paired_get' pa e
      cases t with
      | v d => cases hm
      | o ds => exact q.elim
      | b ds =>
        cases hm
        obtain ⟨p, ws, rfl, q1, q2, q3⟩ := q
        exact ⟨p, ws, hσ i _ ev, q1, q2, q3, fun z => absurd z.symm Bool.false_ne_true, fun _ => ⟨_, e, ev⟩⟩
    · obtain ⟨t1, d1, e1, m1⟩ := z1
      obtain ⟨t2, d2, e2, m2⟩ := z2
      rw [start_at (vs := vs)] at e1 e2
      have isb : ∀ (i : Nat) (t : Sl) (d : List PyData), as[i]? = some t → t.m = some d → ∃ d, as[i]? = some (.b d) := fun i t d e m => by
        obtain ⟨v, _, q⟩ := paired_get' pa e
        cases t with
        | v _ => cases m
        | o _ => exact q.elim
        | b d => exact ⟨d, e⟩
      obtain ⟨d1, b1⟩ := isb i t1 d1 e1 m1
      obtain ⟨d2, b2⟩ := isb j t2 d2 e2 m2
      exact ne (uni i j d1 d2 b1 b2)
  -- the end
  have fin : ∀ (r' : Sl) (env' : En) (v : V) (σ' : L2.St) (H' F' : Hp), (outA as env').bind (fun l => some (r', l)) = some (r, l) → Same F F' → Rel K ⟨H, F, fun i p => ∃ d, as[i]? = some (.b d) ∧ vs[i]? = some (.ref p)⟩ σ' H' F' env' →
      RT K ⟨H, F, fun i p => ∃ d, as[i]? = some (.b d) ∧ vs[i]? = some (.ref p)⟩ H' F' v r' → Q v H' := fun r' env' v σ' H' F' eo m R' q => by
    obtain ⟨l', ho, eo⟩ := obind eo
    cases eo
    refine post v H' F' ⟨m, R'.sub, fun b o e n => R'.fro b o e fun i ⟨d, z1, z2⟩ => n ⟨i, d, z1, z2⟩, R'.live, R'.new, ?_, fun p ⟨i, d, z1, z2⟩ => ?_⟩
    · cases r with
      | v d => exact q
      | b ds => exact q
      | o ds => exact q
    · have hb' := outA_at as env' l ho i d z1 uni
      obtain ⟨p', ws, _, q1, q2, q3, _, q4⟩ := R'.mu i _ l hb' rfl
      obtain ⟨d', _, z3⟩ := q4 rfl
      rw [z2] at z3
      cases z3
      exact ⟨q1, ws, q2, q3⟩
  have ends : EndOk K ⟨H, F, fun i p => ∃ d, as[i]? = some (.b d) ∧ vs[i]? = some (.ref p)⟩ F { nx := fun _ H' => Q .non H', rt := Q } fl := by
    cases fl with
    | nx e => exact fun σ' H' F' m R' => fin _ e .non σ' H' F' eg m R' .non
    | rt r' e => exact fun v σ' H' F' m R' q => fin r' e v σ' H' F' eg m R' q
    | bk e => cases eg
    | ct e => cases eg
  refine wpAny_mono (body.run [] s1 (L2.start f.N vs) H _ I ⟨_, F, _, fl, R, ef, ends⟩) (fun fl s' hs => ?_) fun e s' hs => hs
  have back : ∀ {σ' : L2.St} {H' : Hp} {v : V} {u : Value}, L2.Inv (cxOf CX0 P w K mg base f.N qual (defScope st) a cdv A outer s H E0) [] σ' H' s' → RelV v u → Q v H' → CE outer P w H s Q u s' :=
    fun {σ' H' v u} J rv q => ⟨v, H', J.os, J.bare, J.base, J.hok, rv, q⟩
  cases fl with
  | ret u =>
    obtain ⟨v, σ', H', J, rv, q⟩ := hs
    exact back J rv q
  | next =>
    obtain ⟨σ', H', J, q⟩ := hs
    exact back (v := V.non) (u := Value.none) J rfl q
  | brk =>
    obtain ⟨_, _, _, q⟩ := hs
    exact False.elim q
  | cont =>
    obtain ⟨_, _, _, q⟩ := hs
    exact False.elim q
end PF

/-! PF14: the whole program by its defs; the law's call. -/
namespace PF
open PySem PySem.Spec PyProof.Rows L2
/-- a def as it stands behind the top -/
structure DefAt (K : PySem.W.Frag) (mg : Str → Option Value) (fns : List Str) (cons : List (Str × PyData)) (f : Fn) : Prop where
  ex : ∃ a fd st, mg f.name = some (.ref a) ∧ Fun K f.name f.name st a fd ∧ L2.Binds K fd f.ps [] ∧ chkD fns cons f st = true
theorem prog_ok {P : Program} {w : World} {K : PySem.W.Frag} {mg : Str → Option Value} {base : Heap} {fs : List Fn} {fns : List Str} {cons : List (Str × PyData)} {FU : Nat} (hn : fns = fs.map (·.name))
    (hd : ∀ f ∈ fs, DefAt K mg fns cons f) (hblt : ∀ x ∈ blts, mg x = none) (hcons : ∀ x d, cons.lookup x = some d → ∃ u v, mg x = some u ∧ RelV v u ∧ ∀ F, Dq K F v d) :
    ∀ (n g : Nat) (x : Str), fns[g]? = some x → ∃ a, mg x = some (.ref a) ∧ FnP P w K mg base n a (runP cons FU fs n g) := by
  intro n
  induction n with
  | zero =>
    intro g x hx
    rw [hn, List.getElem?_map] at hx
    cases e : fs[g]? with
    | none =>
      rw [e] at hx
      cases hx
    | some f =>
      rw [e] at hx
      cases hx
      obtain ⟨a, fd, st, h1, h2, h3, h4⟩ := (hd f (List.mem_of_getElem? e)).ex
      refine ⟨a, h1, ⟨h2.kp, fd, f.ps, h3, ⟨(fun as r z => by cases z), fun A outer s H args us vs Q hr hg e0 hb rv hsp => ?_⟩⟩⟩
      obtain ⟨_, _, _, _, _, _, _, z, _⟩ := hsp
      cases z
  | succ n ih =>
    intro g x hx
    rw [hn, List.getElem?_map] at hx
    cases e : fs[g]? with
    | none =>
      rw [e] at hx
      cases hx
    | some f =>
      rw [e] at hx
      cases hx
      obtain ⟨a, fd, st, h1, h2, h3, h4⟩ := (hd f (List.mem_of_getElem? e)).ex
      have G := fn_G (P := P) (w := w) (base := base) (FU := FU) h2 h4 hblt hcons ih
      refine ⟨a, h1, ⟨h2.kp, fd, f.ps, h3, ?_⟩⟩
      have e2 : runP cons FU fs (n + 1) g = runFn (runP cons FU fs n) cons FU f := by
        funext as
        show (fs[g]?).bind _ = _
        rw [e]
        rfl
      rw [e2]
      exact G
/-! ### the law's call -/
theorem dq_ints {K : PySem.W.Frag} {F : Hp} : ∀ ns : List Int, DqAll K F (ns.map V.int) (ns.map PyData.int)
  | [] => .nil
  | i :: r => .cons (.int i) (dq_ints r)
theorem law_go {P : Program} {w : World} {K : PySem.W.Frag} {mg mb : Str → Option Value} {n : Nat} {fa a : Addr} {fd : FuncData} {x : Str} {g : DefG} {s1 : Shared} {vs : List Value} {ns : List Int} {H : Hp} {l : List PyData}
    (KX : K.In s1.heap) (hns : s1.heap.Ns mainGlobals mg) (hb : s1.heap.Ns builtinsNs mb) (hbb : ∀ x : Str, x ≠ "__name__" → mb x = bootBuiltins x) (hlim : s1.heap.NoLimit) (hg : s1.gens = #[])
    (ha : s1.heap.get? a = some { cls := .type "list", data := .seq vs.toArray }) (hr : Room n callerA) (F : ∀ base : Heap, K.In base → base.Ns mainGlobals mg → FnG P w K mg base n fa fd [x] g) (hbind : ∀ (s : Shared) (u : Value), BindsTo s fd ⟨[u], []⟩ [(x, u)])
    (hO : Only H) (hS : RdL K H a (ns.map V.int)) (hok : HOk P w H s1.heap) (hA : ∀ b, H b ≠ none → b = a) (hK : H a ≠ none → K.lookup a = none) (eg : g [.v (.list (ns.map .int))] = some (.v (.bool true), l)) :
    codeAny (model P w) callerA (.call (.ref fa) ⟨[.ref a], []⟩) (fun r s' => r = .ok (.ret (.bool true)) ∧ OldK s1.heap s'.heap ∧ s'.os = s1.os ∧ AllBare s'.gens) s1 := by
  have tracked : ∀ {b : Addr} {u : HO}, H b = some u → b = a := fun {b u} q => hA b (by rw [q]; simp)
  have dicts : ∀ {b : Addr} {o : Obj} {es : Array DictEntry} {ep : Nat}, s1.heap.get? b = some o → o.data = .dict es ep → H b = none := fun {b o es ep} e d => by
    cases q : H b with
    | none => rfl
    | some u =>
      cases tracked q
      rw [ha] at e
      cases e
      have d' : Data.seq vs.toArray _ = Data.dict es ep := d
      cases d'
  have nsK : ∀ {b : Addr} {m : Str → Option Value}, s1.heap.Ns b m → (hidT s1.heap H).Ns b m := fun {b m} ⟨o, es, ep, e, d, r⟩ => ⟨o, es, ep, hidT_get e (dicts e d), d, r⟩
  have kin : K.In (hidT s1.heap H) := fun b o e => hidT_get (KX b o e) (by
    cases q : H b with
    | none => rfl
    | some u =>
      cases tracked q
      rw [hK (by rw [q]; simp)] at e
      cases e)
  have hM : Mod K mg (hidT s1.heap H) := ⟨kin, nsK hns, ⟨mb, nsK hb, hbb⟩, let ⟨mc, h1, h2⟩ := hlim; ⟨mc, nsK h1, h2⟩⟩
  have none_in : ∀ b, b ∉ frs ([] : List Env) := fun b z => by
    have z' : b ∈ ([] : List Addr) := z
    simp at z'
  have e0 : Env0 P w K mg (hidT s1.heap H) callerA [] s1 H := ⟨rfl, hM, fun b o e => of_hidT e, Nat.le_of_eq (hidT_size _ _), trivial, fun b hb => absurd hb (none_in b), hok, .of_eq hg⟩
  have sp : spF K g [.ref a] H (fun v _ => v = .bl true) := by
    refine ⟨H, [.v (.list (ns.map .int))], .v (.bool true), l, Same.refl _, .cons (.lst hS (dq_ints ns)) .nil, fun i j d e z _ => ?_, eg, fun v H' F' post => ?_⟩
    · cases i with
      | zero => cases z
      | succ i => simp at z
    · have q := post.res
      cases q
      rfl
  refine codeAny_mono ((F _ kin (nsK hns)).run callerA [] s1 H ⟨[.ref a], []⟩ [.ref a] [.ref a] _ hr rfl e0 (hbind s1 (.ref a)) (.cons rfl .nil) sp) fun r s' h => ?_
  cases r with
  | error e => exact h.elim
  | ok fl =>
    cases fl with
    | next => exact h.elim
    | brk => exact h.elim
    | cont => exact h.elim
    | ret u =>
      obtain ⟨v, H', os, bare, un, hok', r', q⟩ := h
      have q' : v = .bl true := q
      subst q'
      obtain rfl : u = Value.bool true := r'
      refine ⟨rfl, OldK.of_keep fun b o e => ?_, os, bare⟩
      cases q : H b with
      | none => exact un.keep b o e q (none_in b) (by simp)
      | some u =>
        rcases hO b with z | ⟨ob, xs, z⟩
        · rw [q] at z
          cases z
        · obtain ⟨e1, _⟩ := hok b _ z
          obtain ⟨e2, _⟩ := hok' b _ (un.frzs b ob _ z)
          rw [e] at e1
          cases e1
          exact e2
theorem law_callG {P : Program} {w : World} {K : PySem.W.Frag} {mg mb : Str → Option Value} {n : Nat} {fa a : Addr} {fd : FuncData} {x : Str} {g : DefG} {s1 : Shared} {vs : List Value} {ns : List Int} {l : List PyData}
    (KX : K.In s1.heap) (hns : s1.heap.Ns mainGlobals mg) (hb : s1.heap.Ns builtinsNs mb) (hbb : ∀ x : Str, x ≠ "__name__" → mb x = bootBuiltins x) (hlim : s1.heap.NoLimit) (hg : s1.gens = #[])
    (ha : s1.heap.get? a = some { cls := .type "list", data := .seq vs.toArray }) (hi : IntsAre vs ns) (hl : ns.length ≤ sizeLine) (hr : Room n callerA) (F : ∀ base : Heap, K.In base → base.Ns mainGlobals mg → FnG P w K mg base n fa fd [x] g)
    (hbind : ∀ (s : Shared) (u : Value), BindsTo s fd ⟨[u], []⟩ [(x, u)]) (eg : g [.v (.list (ns.map .int))] = some (.v (.bool true), l)) :
    codeAny (model P w) callerA (.call (.ref fa) ⟨[.ref a], []⟩) (fun r s' => r = .ok (.ret (.bool true)) ∧ OldK s1.heap s'.heap ∧ s'.os = s1.os ∧ AllBare s'.gens) s1 := by
  have rv := vals_ints hi
  have hz : (ns.map V.int).length ≤ sizeLine := by
    rw [List.length_map]
    exact hl
  cases hk : K.lookup a with
  | some o =>
    have e := KX a o hk
    rw [ha] at e
    cases e
    exact law_go (H := fun _ => none) KX hns hb hbb hlim hg ha hr F hbind (fun _ => .inl rfl) (.inr ⟨vs, _, hk, rv, hz⟩) (fun b u z => by cases z) (fun b z => absurd rfl z) (fun z => absurd rfl z) eg
  | none =>
    refine law_go (H := upd (fun _ => none) a (.frz { cls := .type "list", data := .seq vs.toArray } (.lst (ns.map V.int)))) KX hns hb hbb hlim hg ha hr F hbind (fun b => ?_) (.inl (.inr ⟨_, upd_same⟩)) (fun b u z => ?_) (fun b z => ?_) (fun _ => hk) eg
    · by_cases hb2 : b = a
      · subst hb2
        exact .inr ⟨_, _, upd_same⟩
      · exact .inl (upd_ne hb2)
    · by_cases hb2 : b = a
      · subst hb2
        rw [upd_same] at z
        cases z
        exact ⟨ha, hz, vs, _, rv, ha⟩
      · rw [upd_ne hb2] at z
        cases z
    · by_cases hb2 : b = a
      · exact hb2
      · exact absurd (upd_ne hb2) z
/-- what k_head leaves, from the defs and the law's run -/
theorem walk_P {l : PySem.W.OpenLaw} {m n : Nat} {q : Program} {loose : List Str} {XP : (Str → Option Value) → Heap → Prop} {YP : World → Heap → Prop} {d : DefRec} {K : Params → PySem.W.Frag} {x : Str} {g : DefG}
    (hn : l.most = some m) (hm : m ≤ sizeLine) (hdf : d.params.defaults = []) (hr : Room n callerA) (hY : ∀ (w : World) (h : Heap), YP w h → (K w.params).In h)
    (F : ∀ (w : World) (mg : Str → Option Value) (fa : Addr) (h : Heap), (K w.params).In h → h.Ns mainGlobals mg → mg d.name = some (.ref fa) →
      ∃ fd : FuncData, (∀ (s : Shared) (u : Value), BindsTo s fd ⟨[u], []⟩ [(x, u)]) ∧ ∀ base : Heap, (K w.params).In base → base.Ns mainGlobals mg → FnG l.prog w (K w.params) mg base n fa fd [x] g)
    (eg : ∀ ns : List Int, ns.length ≤ m → ∃ ds, g [.v (.list (ns.map .int))] = some (.v (.bool true), ds)) :
    PySem.W.WalkO q loose XP YP l.row.toRowW d [] (fun f vs => PySem.call f vs) := by
  refine Att.attach_call hn hdf fun w s0 s1 mg mb fa o pm cd doc a vs ns G Y ho hd hcd hmg hobj hints hlen hg => ?_
  have KX := hY w _ Y
  obtain ⟨fd, hb, hF⟩ := F w mg fa _ KX G.T.g hmg
  obtain ⟨ds, e⟩ := eg ns hlen
  exact law_callG KX G.T.g G.T.b G.T.builtins G.T.nolimit hg hobj hints (Nat.le_trans hlen hm) hr hF hb e
end PF

/-! PF15: evaluation by simp. -/
namespace PF
open PySem L2
section
variable {Γ : Tab} {C : List (Str × PyData)} {FU : Nat} {env : En}
@[simp] theorem at_zero (s : Option Sl) (r : En) : En.at (s :: r) 0 = s := rfl
@[simp] theorem at_succ (s : Option Sl) (r : En) (i : Nat) : En.at (s :: r) (i + 1) = En.at r i := rfl
@[simp] theorem get_d (z : PyData) : Hd.get env (.d z) = some z := rfl
@[simp] theorem get_s (i : Nat) : Hd.get env (.s i) = (env.at i).map Sl.d := rfl
@[simp] theorem d_v (z : PyData) : Sl.d (.v z) = z := rfl
@[simp] theorem d_o (z : List PyData) : Sl.d (.o z) = .list z := rfl
@[simp] theorem d_b (z : List PyData) : Sl.d (.b z) = .list z := rfl
@[simp] theorem hd_x (i : Nat) (r : RE) : hd (.x i) r env = if (env.at i).isSome then some (.s i, env) else none := rfl
@[simp] theorem hd_k (d : PyData) (r : RE) : hd (.k d) r env = r.bind fun p => some (.d p.1.d, p.2) := rfl
@[simp] theorem hd_g (d : Str) (r : RE) : hd (.g d) r env = r.bind fun p => some (.d p.1.d, p.2) := rfl
@[simp] theorem hd_bin (o) (a b : IE) (r : RE) : hd (.bin o a b) r env = r.bind fun p => some (.d p.1.d, p.2) := rfl
@[simp] theorem hd_neg (a : IE) (r : RE) : hd (.neg a) r env = r.bind fun p => some (.d p.1.d, p.2) := rfl
@[simp] theorem hd_not (a : IE) (r : RE) : hd (.not a) r env = r.bind fun p => some (.d p.1.d, p.2) := rfl
@[simp] theorem hd_and (a b : IE) (r : RE) : hd (.and a b) r env = r.bind fun p => some (.d p.1.d, p.2) := rfl
@[simp] theorem hd_or (a b : IE) (r : RE) : hd (.or a b) r env = r.bind fun p => some (.d p.1.d, p.2) := rfl
@[simp] theorem hd_cmp (o) (a b : IE) (r : RE) : hd (.cmp o a b) r env = r.bind fun p => some (.d p.1.d, p.2) := rfl
@[simp] theorem hd_ch (o o') (a b c : IE) (r : RE) : hd (.ch o o' a b c) r env = r.bind fun p => some (.d p.1.d, p.2) := rfl
@[simp] theorem hd_ife (t : IT) (a b : IE) (r : RE) : hd (.ife t a b) r env = r.bind fun p => some (.d p.1.d, p.2) := rfl
@[simp] theorem hd_ix (a b : IE) (r : RE) : hd (.ix a b) r env = r.bind fun p => some (.d p.1.d, p.2) := rfl
@[simp] theorem hd_sl (a : IE) (b c : IO) (r : RE) : hd (.sl a b c) r env = r.bind fun p => some (.d p.1.d, p.2) := rfl
@[simp] theorem hd_rv (a : IE) (r : RE) : hd (.rv a) r env = r.bind fun p => some (.d p.1.d, p.2) := rfl
@[simp] theorem hd_tup (a : IL) (r : RE) : hd (.tup a) r env = r.bind fun p => some (.d p.1.d, p.2) := rfl
@[simp] theorem hd_lst (a : IL) (r : RE) : hd (.lst a) r env = r.bind fun p => some (.d p.1.d, p.2) := rfl
@[simp] theorem hd_fn (f) (a : IL) (r : RE) : hd (.fn f a) r env = r.bind fun p => some (.d p.1.d, p.2) := rfl
@[simp] theorem hd_isi (a : IE) (t : String) (r : RE) : hd (.isi a t) r env = r.bind fun p => some (.d p.1.d, p.2) := rfl
@[simp] theorem hd_call (f : Nat) (a : IL) (r : RE) : hd (.call f a) r env = r.bind fun p => some (.d p.1.d, p.2) := rfl
@[simp] theorem hd_lc (o) (g : IG) (i : II) (c : IT) (a : IE) (r : RE) : hd (.lc o g i c a) r env = r.bind fun p => some (.d p.1.d, p.2) := rfl
@[simp] theorem hd_mt (m) (i : Nat) (a : IL) (r : RE) : hd (.mt m i a) r env = r.bind fun p => some (.d p.1.d, p.2) := rfl
@[simp] theorem use_v {i : Nat} {d : PyData} (h : env.at i = some (.v d)) : useI env i = some (.v d, env) := by
  unfold useI
  rw [h]
@[simp] theorem use_o {i : Nat} {ds : List PyData} (h : env.at i = some (.o ds)) : useI env i = some (.v (.list ds), env.set i (some (.v (.list ds)))) := by
  unfold useI
  rw [h]
@[simp] theorem put_v {i : Nat} {d : PyData} {s : Sl} (h : env.at i = some (.v d)) : env.put i s = some (env.set i (some s)) := by
  unfold En.put
  rw [h]
@[simp] theorem put_o {i : Nat} {d : List PyData} {s : Sl} (h : env.at i = some (.o d)) : env.put i s = some (env.set i (some s)) := by
  unfold En.put
  rw [h]
@[simp] theorem put_none {i : Nat} {s : Sl} (h : env.at i = none) : env.put i s = some (env.set i (some s)) := by
  unfold En.put
  rw [h]
@[simp] theorem runE_k (d : PyData) : runE Γ C (.k d) env = some (.v d, env) := rfl
@[simp] theorem runE_g (x : Str) : runE Γ C (.g x) env = (C.lookup x).bind fun d => some (.v d, env) := rfl
@[simp] theorem runE_x (i : Nat) : runE Γ C (.x i) env = useI env i := rfl
@[simp] theorem runE_bin (op : Operator) (a b : IE) : runE Γ C (.bin op a b) env = (hd a (runE Γ C a env) env).bind fun p => (hd b (runE Γ C b p.2) p.2).bind fun q =>
      (p.1.get q.2).bind fun x => (q.1.get q.2).bind fun y => (binD op x y).bind fun r => some (r, q.2) := rfl
@[simp] theorem runE_neg (a : IE) : runE Γ C (.neg a) env = un1 (hd a (runE Γ C a env) env) fun d => match d with
      | .int i => some (.v (.int (-i)))
      | _ => none := rfl
@[simp] theorem runE_not (a : IE) : runE Γ C (.not a) env = un1 (hd a (runE Γ C a env) env) fun d => (truD d).bind fun b => some (.v (.bool !b)) := rfl
@[simp] theorem runE_and (a b : IE) : runE Γ C (.and a b) env = (runE Γ C a env).bind fun p => (truD p.1.d).bind fun t => if t = true then runE Γ C b p.2 else some (.v p.1.d, p.2) := rfl
@[simp] theorem runE_or (a b : IE) : runE Γ C (.or a b) env = (runE Γ C a env).bind fun p => (truD p.1.d).bind fun t => if t = true then some (.v p.1.d, p.2) else runE Γ C b p.2 := rfl
@[simp] theorem runE_cmp (op : CmpOp) (a b : IE) : runE Γ C (.cmp op a b) env = (hd a (runE Γ C a env) env).bind fun p => (hd b (runE Γ C b p.2) p.2).bind fun q =>
      (p.1.get q.2).bind fun x => (q.1.get q.2).bind fun y => (cmpD op x y).bind fun r => some (.v (.bool r), q.2) := rfl
@[simp] theorem runE_ch (op op' : CmpOp) (a b c : IE) : runE Γ C (.ch op op' a b c) env = (hd a (runE Γ C a env) env).bind fun p => (hd b (runE Γ C b p.2) p.2).bind fun q =>
      (p.1.get q.2).bind fun x => (q.1.get q.2).bind fun y => (cmpD op x y).bind fun r => if r = true then
        (hd c (runE Γ C c q.2) q.2).bind fun w => (q.1.get w.2).bind fun y' => (w.1.get w.2).bind fun z => (cmpD op' y' z).bind fun r' => some (.v (.bool r'), w.2)
      else some (.v (.bool false), q.2) := rfl
@[simp] theorem runE_ife (t : IT) (a b : IE) : runE Γ C (.ife t a b) env = (runT Γ C t env).bind fun p => if p.1 = true then runE Γ C a p.2 else runE Γ C b p.2 := rfl
@[simp] theorem runE_ix (a b : IE) : runE Γ C (.ix a b) env = (hd a (runE Γ C a env) env).bind fun p => (hd b (runE Γ C b p.2) p.2).bind fun q =>
      (p.1.get q.2).bind fun x => (q.1.get q.2).bind fun y => (ixD x y).bind fun r => some (.v r, q.2) := rfl
@[simp] theorem runE_sl (a : IE) (lo hi : IO) : runE Γ C (.sl a lo hi) env = (hd a (runE Γ C a env) env).bind fun p => (runO Γ C lo p.2).bind fun q => (runO Γ C hi q.2).bind fun w =>
      (p.1.get w.2).bind fun x => (slD x q.1 w.1).bind fun r => some (r, w.2) := rfl
@[simp] theorem runE_rv (a : IE) : runE Γ C (.rv a) env = un1 (hd a (runE Γ C a env) env) rvD := rfl
@[simp] theorem runE_tup (es : IL) : runE Γ C (.tup es) env = (runV Γ C es env).bind fun p => (getD p.1).bind fun ds => if ds.length ≤ sizeLine then some (.v (.tuple ds), p.2) else none := rfl
@[simp] theorem runE_lst (es : IL) : runE Γ C (.lst es) env = (runV Γ C es env).bind fun p => (getD p.1).bind fun ds => if ds.length ≤ sizeLine then some (.o ds, p.2) else none := rfl
@[simp] theorem runE_fn (f : BF) (es : IL) : runE Γ C (.fn f es) env = (runL Γ C es env).bind fun p => (getL p.2 p.1).bind fun ds => (fnD f ds).bind fun r => some (r, p.2) := rfl
@[simp] theorem runE_isi (a : IE) (t : String) : runE Γ C (.isi a t) env = un1 (hd a (runE Γ C a env) env) fun d => some (.v (.bool (isiD d t))) := rfl
@[simp] theorem runE_call (f : Nat) (es : IL) : runE Γ C (.call f es) env = (runV Γ C es env).bind fun p => (getA p.2 false p.1).bind fun as => (Γ f as).bind fun r => some (r.1, putA p.2 p.1 r.2) := rfl
theorem runE_lc (own : List (Str × Nat)) (g : IG) (it : II) (c : IT) (e : IE) : runE Γ C (.lc own g it c e) env = (runI Γ C it env).bind fun p => if noOwn p.2 own = true then
      (compD (lcTurn Γ C own g c e) p.1 (wipeE p.2 own)).bind fun q => if q.1.length ≤ sizeLine then some (.o q.1, backE p.2 q.2 own) else none
      else none := rfl
theorem runE_mt (m : MT) (i : Nat) (es : IL) : runE Γ C (.mt m i es) env = if mutAt env i = true then (runV Γ C es env).bind fun p => (getD p.1).bind fun ds => match p.2.at i with
      | some (.o xs) => (mtD m xs ds).bind fun r => some (.v r.1, p.2.set i (some (.o r.2)))
      | some (.b xs) => (mtD m xs ds).bind fun r => some (.v r.1, p.2.set i (some (.b r.2)))
      | _ => none
    else none := rfl
@[simp] theorem un1_some (h : Hd) (e : En) (f : PyData → Option Sl) : un1 (some (h, e)) f = (h.get e).bind fun d => (f d).bind fun r => some (r, e) := rfl
@[simp] theorem tr1_some (h : Hd) (e : En) : tr1 (some (h, e)) = (h.get e).bind fun d => (truD d).bind fun r => some (r, e) := rfl
@[simp] theorem runT_yes : runT Γ C .yes env = some (true, env) := rfl
@[simp] theorem runT_e (a : IE) : runT Γ C (.e a) env = tr1 (hd a (runE Γ C a env) env) := rfl
@[simp] theorem runT_not (a : IT) : runT Γ C (.not a) env = (runT Γ C a env).bind fun p => some (!p.1, p.2) := rfl
@[simp] theorem runT_and (a b : IT) : runT Γ C (.and a b) env = (runT Γ C a env).bind fun p => if p.1 = true then runT Γ C b p.2 else some (false, p.2) := rfl
@[simp] theorem runT_or (a b : IT) : runT Γ C (.or a b) env = (runT Γ C a env).bind fun p => if p.1 = true then some (true, p.2) else runT Γ C b p.2 := rfl
@[simp] theorem runL_nil : runL Γ C .nil env = some ([], env) := rfl
@[simp] theorem runL_cons (a : IE) (r : IL) : runL Γ C (.cons a r) env = (hd a (runE Γ C a env) env).bind fun p => (runL Γ C r p.2).bind fun q => some (p.1 :: q.1, q.2) := rfl
@[simp] theorem runV_nil : runV Γ C .nil env = some ([], env) := rfl
@[simp] theorem runV_cons (a : IE) (r : IL) : runV Γ C (.cons a r) env = (runE Γ C a env).bind fun p => (runV Γ C r p.2).bind fun q => some (.d p.1.d :: q.1, q.2) := rfl
@[simp] theorem runV_star (a : IE) (r : IL) : runV Γ C (.star a r) env = (runE Γ C a env).bind fun p => match p.1.d with
      | .list ds => (runV Γ C r p.2).bind fun q => some (ds.map Hd.d ++ q.1, q.2)
      | .tuple ds => (runV Γ C r p.2).bind fun q => some (ds.map Hd.d ++ q.1, q.2)
      | _ => none := rfl
@[simp] theorem runV_io (i : Nat) (r : IL) : runV Γ C (.io i r) env = if (env.at i).isSome then (runV Γ C r env).bind fun q => some (.s i :: q.1, q.2) else none := rfl
@[simp] theorem runO_no : runO Γ C .no env = some (none, env) := rfl
@[simp] theorem runO_so (a : IE) : runO Γ C (.so a) env = (hd a (runE Γ C a env) env).bind fun p => (p.1.get p.2).bind fun d => match d with
      | .int i => some (some i, p.2)
      | _ => none := rfl
@[simp] theorem runI_e (a : IE) : runI Γ C (.e a) env = (runE Γ C a env).bind fun p => match p.1.d with
      | .list ds => some (ds, p.2)
      | .tuple ds => some (ds, p.2)
      | _ => none := rfl
@[simp] theorem runI_r1 (a : IE) : runI Γ C (.r1 a) env = (hd a (runE Γ C a env) env).bind fun p => (p.1.get p.2).bind fun d => match d with
      | .int j => if -(2 ^ 62) ≤ j ∧ j < 2 ^ 62 then some (rngD 0 j.toNat, p.2) else none
      | _ => none := rfl
@[simp] theorem runI_r2 (a b : IE) : runI Γ C (.r2 a b) env = (hd a (runE Γ C a env) env).bind fun p => (hd b (runE Γ C b p.2) p.2).bind fun q =>
      (p.1.get q.2).bind fun x => (q.1.get q.2).bind fun y => match x, y with
      | .int i, .int j => if -(2 ^ 62) ≤ i ∧ i < 2 ^ 62 ∧ -(2 ^ 62) ≤ j ∧ j < 2 ^ 62 then some (rngD i (j - i).toNat, q.2) else none
      | _, _ => none := rfl
@[simp] theorem runI_zip (a b : IE) : runI Γ C (.zip a b) env = (runE Γ C a env).bind fun p => (runE Γ C b p.2).bind fun q => match p.1.d, q.1.d with
      | .list xs, .list ys => some (zipD xs ys, q.2)
      | .tuple xs, .tuple ys => some (zipD xs ys, q.2)
      | _, _ => none := rfl
@[simp] theorem runI_enum (a : IE) : runI Γ C (.enum a) env = (runE Γ C a env).bind fun p => match p.1.d with
      | .list ds => some (enumD 0 ds, p.2)
      | _ => none := rfl
@[simp] theorem getL_nil : getL env [] = some [] := rfl
@[simp] theorem getL_cons (h : Hd) (r : List Hd) : getL env (h :: r) = (h.get env).bind fun d => (getL env r).bind fun ds => some (d :: ds) := rfl
@[simp] theorem getD_nil : getD [] = some [] := rfl
@[simp] theorem getD_cons (z : PyData) (r : List Hd) : getD (.d z :: r) = (getD r).bind fun ds => some (z :: ds) := rfl
@[simp] theorem getA_nil (k : Bool) : getA env k [] = some [] := by cases k <;> rfl
@[simp] theorem getA_d (k : Bool) (z : PyData) (r : List Hd) : getA env k (.d z :: r) = (getA env k r).bind fun ds => some (.v z :: ds) := by cases k <;> rfl
@[simp] theorem getA_so {i : Nat} {ds : List PyData} (r : List Hd) (h : env.at i = some (.o ds)) : getA env false (.s i :: r) = (getA env true r).bind fun l => some (.b ds :: l) := by
  show (match env.at i with
    | some (.o ds) => (getA env true r).bind fun l => some (Sl.b ds :: l)
    | some (.b ds) => (getA env true r).bind fun l => some (Sl.b ds :: l)
    | _ => none) = _
  rw [h]
@[simp] theorem getA_sb {i : Nat} {ds : List PyData} (r : List Hd) (h : env.at i = some (.b ds)) : getA env false (.s i :: r) = (getA env true r).bind fun l => some (.b ds :: l) := by
  show (match env.at i with
    | some (.o ds) => (getA env true r).bind fun l => some (Sl.b ds :: l)
    | some (.b ds) => (getA env true r).bind fun l => some (Sl.b ds :: l)
    | _ => none) = _
  rw [h]
@[simp] theorem lent_nil : lentS [] = none := rfl
@[simp] theorem lent_d (z : PyData) (r : List Hd) : lentS (.d z :: r) = lentS r := rfl
@[simp] theorem lent_s (i : Nat) (r : List Hd) : lentS (.s i :: r) = some i := rfl
theorem putA_none {hs : List Hd} (l : List PyData) (h : lentS hs = none) : putA env hs l = env := by
  unfold putA
  rw [h]
theorem putA_o {hs : List Hd} {i : Nat} {ds : List PyData} (l : List PyData) (h : lentS hs = some i) (h2 : env.at i = some (.o ds)) : putA env hs l = env.set i (some (.o l)) := by
  unfold putA
  rw [h]
  simp only [h2]
theorem putA_b {hs : List Hd} {i : Nat} {ds : List PyData} (l : List PyData) (h : lentS hs = some i) (h2 : env.at i = some (.b ds)) : putA env hs l = env.set i (some (.b l)) := by
  unfold putA
  rw [h]
  simp only [h2]
@[simp] theorem putA_dn (z : PyData) (r : List Hd) (l : List PyData) : putA env (.d z :: r) l = putA env r l := rfl
@[simp] theorem putA_nil (l : List PyData) : putA env [] l = env := rfl
@[simp] theorem putA_so {i : Nat} {ds : List PyData} (r : List Hd) (l : List PyData) (h : env.at i = some (.o ds)) : putA env (.s i :: r) l = env.set i (some (.o l)) := putA_o l rfl h
@[simp] theorem putA_sb {i : Nat} {ds : List PyData} (r : List Hd) (l : List PyData) (h : env.at i = some (.b ds)) : putA env (.s i :: r) l = env.set i (some (.b l)) := putA_b l rfl h
/-! statements -/
@[simp] theorem runS_set (i : Nat) (e : IE) : runS Γ C FU (.set i e) env = (runE Γ C e env).bind fun p => (p.2.put i p.1).bind fun env' => some (.nx env') := rfl
@[simp] theorem runS_tgt (gs : IGs) (e : IE) : runS Γ C FU (.tgt gs e) env = (runE Γ C e env).bind fun p => match p.1.d with
      | .tuple ds => (runGs gs ds p.2).bind fun env' => some (.nx env')
      | _ => none := rfl
@[simp] theorem runS_par2 (i j : Nat) (a b : IE) : runS Γ C FU (.par2 i j a b) env = (runE Γ C a env).bind fun p => (runE Γ C b p.2).bind fun q => (q.2.put i (.v p.1.d)).bind fun e1 => (e1.put j (.v q.1.d)).bind fun e2 => some (.nx e2) := rfl
@[simp] theorem runS_par3 (i j l : Nat) (a b c : IE) : runS Γ C FU (.par3 i j l a b c) env = (runE Γ C a env).bind fun p => (runE Γ C b p.2).bind fun q => (runE Γ C c q.2).bind fun w =>
      (w.2.put i (.v p.1.d)).bind fun e1 => (e1.put j (.v q.1.d)).bind fun e2 => (e2.put l (.v w.1.d)).bind fun e3 => some (.nx e3) := rfl
theorem runS_six (i : Nat) (k e : IE) : runS Γ C FU (.six i k e) env = (runE Γ C e env).bind fun p => if mutAt p.2 i = true then (hd k (runE Γ C k p.2) p.2).bind fun q => (q.1.get q.2).bind fun y => match y with
      | .int z => (atS q.2 i).bind fun xs => (ixN xs.length z).bind fun j => (setS q.2 i (xs.set j p.1.d)).bind fun env' => some (.nx env')
      | _ => none
    else none := rfl
theorem runS_aug (i : Nat) (op : Operator) (e : IE) : runS Γ C FU (.aug i op e) env = (hd e (runE Γ C e env) env).bind fun p => match env.at i with
      | some (.v x) => (p.1.get p.2).bind fun y => (augD op x y).bind fun d => (p.2.put i (.v d)).bind fun env' => some (.nx env')
      | _ => none := rfl
theorem runS_aix (i : Nat) (k : IE) (op : Operator) (e : IE) : runS Γ C FU (.aix i k op e) env = if mutAt env i = true then (hd k (runE Γ C k env) env).bind fun p => (p.1.get p.2).bind fun y => match y with
      | .int z => (atS p.2 i).bind fun xs => (ixN xs.length z).bind fun j => (xs[j]?).bind fun old => (hd e (runE Γ C e p.2) p.2).bind fun q => (q.1.get q.2).bind fun w => (augD op old w).bind fun d =>
          (atS q.2 i).bind fun ys => (ixN ys.length z).bind fun j' => (setS q.2 i (ys.set j' d)).bind fun env' => some (.nx env')
      | _ => none
    else none := rfl
@[simp] theorem runS_ret (e : IE) : runS Γ C FU (.ret e) env = (runE Γ C e env).bind fun p => some (.rt p.1 p.2) := rfl
theorem runS_retx (i : Nat) : runS Γ C FU (.retx i) env = match env.at i with
      | some (.o ds) => some (.rt (.o ds) (env.set i none))
      | some (.v d) => some (.rt (.v d) env)
      | _ => none := rfl
@[simp] theorem retx_v {i : Nat} {d : PyData} (h : env.at i = some (.v d)) : runS Γ C FU (.retx i) env = some (.rt (.v d) env) := by
  rw [runS_retx, h]
@[simp] theorem retx_o {i : Nat} {d : List PyData} (h : env.at i = some (.o d)) : runS Γ C FU (.retx i) env = some (.rt (.o d) (env.set i none)) := by
  rw [runS_retx, h]
@[simp] theorem runS_retn : runS Γ C FU .retn env = some (.rt (.v .none) env) := rfl
@[simp] theorem runS_ex (e : IE) : runS Γ C FU (.ex e) env = (runE Γ C e env).bind fun p => some (.nx p.2) := rfl
@[simp] theorem runS_cond (t : IT) (a b : IB) : runS Γ C FU (.cond t a b) env = (runT Γ C t env).bind fun p => if p.1 = true then runB Γ C FU a p.2 else runB Γ C FU b p.2 := rfl
theorem runS_for (g : IG) (it : II) (b : IB) : runS Γ C FU (.for g it b) env = (runI Γ C it env).bind fun p => forD (fun d en => (runG g d en).bind fun en1 => runB Γ C FU b en1) p.1 p.2 := rfl
theorem runS_wh (t : IT) (b : IB) : runS Γ C FU (.wh t b) env = whileD (fun en => runT Γ C t en) (fun en => runB Γ C FU b en) FU env := rfl
@[simp] theorem runS_brk : runS Γ C FU .brk env = some (.bk env) := rfl
@[simp] theorem runS_cnt : runS Γ C FU .cnt env = some (.ct env) := rfl
@[simp] theorem runS_pass : runS Γ C FU .pass env = some (.nx env) := rfl
@[simp] theorem runB_nil : runB Γ C FU .nil env = some (.nx env) := rfl
@[simp] theorem runB_cons (s : IS) (r : IB) : runB Γ C FU (.cons s r) env = (runS Γ C FU s env).bind fun f => match f with
    | .nx e => runB Γ C FU r e
    | .bk e => some (.bk e)
    | .ct e => some (.ct e)
    | .rt x e => some (.rt x e) := rfl
@[simp] theorem runG_n (i : Nat) (d : PyData) : runG (.n i) d env = env.put i (.v d) := rfl
@[simp] theorem runG_t (gs : IGs) (ds : List PyData) : runG (.t gs) (.tuple ds) env = runGs gs ds env := rfl
@[simp] theorem runGs_nil : runGs .nil [] env = some env := rfl
@[simp] theorem runGs_cons (g : IG) (r : IGs) (d : PyData) (ds : List PyData) : runGs (.cons g r) (d :: ds) env = (runG g d env).bind fun env' => runGs r ds env' := rfl
/-! operations -/
@[simp] theorem add_ii (a b : Int) : binD .Add (.int a) (.int b) = some (.v (.int (a + b))) := rfl
@[simp] theorem sub_ii (a b : Int) : binD .Sub (.int a) (.int b) = some (.v (.int (a - b))) := rfl
@[simp] theorem mul_ii {a b : Int} (h : a.natAbs.log2 + b.natAbs.log2 < 1000000) : binD .Mult (.int a) (.int b) = some (.v (.int (a * b))) := if_pos h
@[simp] theorem mod_ii {a b : Int} (h : 0 < b) : binD .Mod (.int a) (.int b) = some (.v (.int (a % b))) := if_pos h
@[simp] theorem fdiv_ii {a b : Int} (h : 0 < b ∧ b.natAbs.log2 < 9000) : binD .FloorDiv (.int a) (.int b) = some (.v (.int (a / b))) := if_pos h
@[simp] theorem add_ll {a b : List PyData} (h : a.length + b.length ≤ sizeLine) : binD .Add (.list a) (.list b) = some (.o (a ++ b)) := if_pos h
@[simp] theorem add_tt {a b : List PyData} (h : a.length + b.length ≤ sizeLine) : binD .Add (.tuple a) (.tuple b) = some (.v (.tuple (a ++ b))) := if_pos h
@[simp] theorem aug_add (a b : Int) : augD .Add (.int a) (.int b) = some (.int (a + b)) := rfl
@[simp] theorem aug_sub (a b : Int) : augD .Sub (.int a) (.int b) = some (.int (a - b)) := rfl
@[simp] theorem tru_b (b : Bool) : truD (.bool b) = some b := rfl
@[simp] theorem tru_i (i : Int) : truD (.int i) = some (i != 0) := rfl
@[simp] theorem tru_n : truD .none = some false := rfl
@[simp] theorem tru_l (l : List PyData) : truD (.list l) = some (!l.isEmpty) := rfl
@[simp] theorem tru_t (l : List PyData) : truD (.tuple l) = some (!l.isEmpty) := rfl
@[simp] theorem lt_ii (a b : Int) : cmpD .Lt (.int a) (.int b) = some (decide (a < b)) := rfl
@[simp] theorem le_ii (a b : Int) : cmpD .LtE (.int a) (.int b) = some (decide (a ≤ b)) := rfl
@[simp] theorem gt_ii (a b : Int) : cmpD .Gt (.int a) (.int b) = some (decide (b < a)) := rfl
@[simp] theorem ge_ii (a b : Int) : cmpD .GtE (.int a) (.int b) = some (decide (b ≤ a)) := rfl
theorem eq_any {a b : PyData} (h : SeqAt.shaped a = true) (h' : SeqAt.shaped b = true) : cmpD .Eq a b = some (PyData.eqv a b) := by
  simp only [cmpD, h, h', and_self, if_true]
theorem ne_any {a b : PyData} (h : SeqAt.shaped a = true) (h' : SeqAt.shaped b = true) : cmpD .NotEq a b = some (!PyData.eqv a b) := by
  simp only [cmpD, h, h', and_self, if_true]
@[simp] theorem eq_ii (a b : Int) : cmpD .Eq (.int a) (.int b) = some (decide (a = b)) := by
  have h : cmpD .Eq (.int a) (.int b) = some (PyData.eqv (.int a) (.int b)) := eq_any rfl rfl
  rw [h]
  show some (a == b) = _
  exact congrArg some (Bool.beq_eq_decide_eq a b)
@[simp] theorem ne_ii (a b : Int) : cmpD .NotEq (.int a) (.int b) = some (!decide (a = b)) := by
  have h : cmpD .NotEq (.int a) (.int b) = some (!PyData.eqv (.int a) (.int b)) := ne_any rfl rfl
  rw [h]
  show some (!(a == b)) = _
  exact congrArg (fun t => some (!t)) (Bool.beq_eq_decide_eq a b)
@[simp] theorem isN_n : cmpD .Is .none .none = some true := rfl
@[simp] theorem isN_i (i : Int) : cmpD .Is (.int i) .none = some false := rfl
@[simp] theorem isN_t (i : List PyData) : cmpD .Is (.tuple i) .none = some false := rfl
@[simp] theorem isN_l (i : List PyData) : cmpD .Is (.list i) .none = some false := rfl
@[simp] theorem isNN_n : cmpD .IsNot .none .none = some false := rfl
@[simp] theorem isNN_i (i : Int) : cmpD .IsNot (.int i) .none = some true := rfl
@[simp] theorem isNN_t (i : List PyData) : cmpD .IsNot (.tuple i) .none = some true := rfl
@[simp] theorem isNN_l (i : List PyData) : cmpD .IsNot (.list i) .none = some true := rfl
@[simp] theorem ix_l (xs : List PyData) (i : Int) : ixD (.list xs) (.int i) = atI xs i := rfl
@[simp] theorem ix_t (xs : List PyData) (i : Int) : ixD (.tuple xs) (.int i) = atI xs i := rfl
@[simp] theorem sl_l (xs : List PyData) (a b : Option Int) : slD (.list xs) a b = some (.o (cutL xs a b)) := rfl
@[simp] theorem sl_t (xs : List PyData) (a b : Option Int) : slD (.tuple xs) a b = some (.v (.tuple (cutL xs a b))) := rfl
@[simp] theorem rv_l (xs : List PyData) : rvD (.list xs) = some (.o xs.reverse) := rfl
@[simp] theorem fn_len_l (xs : List PyData) : fnD .len [.list xs] = some (.v (.int xs.length)) := rfl
@[simp] theorem fn_len_t (xs : List PyData) : fnD .len [.tuple xs] = some (.v (.int xs.length)) := rfl
@[simp] theorem fn_abs (i : Int) : fnD .abs [.int i] = some (.v (.int (if i < 0 then -i else i))) := rfl
@[simp] theorem fn_int (i : Int) : fnD .int [.int i] = some (.v (.int i)) := rfl
@[simp] theorem fn_intb (k : Bool) : fnD .int [.bool k] = some (.v (.int (if k then 1 else 0))) := rfl
@[simp] theorem fn_max (i j : Int) : fnD .max2 [.int i, .int j] = some (.v (.int (if j > i then j else i))) := rfl
@[simp] theorem fn_min (i j : Int) : fnD .min2 [.int i, .int j] = some (.v (.int (if j < i then j else i))) := rfl
@[simp] theorem fn_tl (xs : List PyData) : fnD .tuple [.list xs] = some (.v (.tuple xs)) := rfl
@[simp] theorem fn_tt (xs : List PyData) : fnD .tuple [.tuple xs] = some (.v (.tuple xs)) := rfl
@[simp] theorem fn_ll (xs : List PyData) : fnD .list [.list xs] = some (.o xs) := rfl
@[simp] theorem fn_lt (xs : List PyData) : fnD .list [.tuple xs] = some (.o xs) := rfl
end
theorem atI_0 {α : Type} (x : α) (r : List α) : atI (x :: r) 0 = some x := atI_nat (j := 0) rfl
theorem atI_lit {α : Type} (xs : List α) (n : Nat) (h : n < xs.length) : atI xs ((n : Nat) : Int) = xs[n]? := by
  rw [atI_nat (List.getElem?_eq_getElem h), List.getElem?_eq_getElem h]
end PF

/-! PF16: the helpers that every law has: the bag of drawn numbers, the comparison. -/
namespace PF
open PySem L2
theorem lg {a : Nat} {k : Nat} (hk : 0 < k) (h : a < 2 ^ k) : a.log2 < k := by
  by_cases h0 : a = 0
  · subst h0
    exact hk
  · exact (Nat.log2_lt h0).mpr h
theorem mulB {a b : Int} (h : a.natAbs < 10 ^ 60) (h' : b.natAbs < 10 ^ 60) : binD .Mult (.int a) (.int b) = some (.v (.int (a * b))) := by
  have h1 : a.natAbs.log2 < 200 := lg (by decide) (Nat.lt_trans h (by decide))
  have h2 : b.natAbs.log2 < 200 := lg (by decide) (Nat.lt_trans h' (by decide))
  exact if_pos (by omega)
theorem fdivB {a b : Int} (h : 0 < b) (h' : b.natAbs < 10 ^ 60) : binD .FloorDiv (.int a) (.int b) = some (.v (.int (a / b))) := by
  have h2 : b.natAbs.log2 < 200 := lg (by decide) (Nat.lt_trans h' (by decide))
  exact if_pos ⟨h, by omega⟩
theorem modB {a b : Int} (h : 0 < b) : binD .Mod (.int a) (.int b) = some (.v (.int (a % b))) := if_pos h
theorem runFn_eq {Γ : Tab} {C : List (Str × PyData)} {FU : Nat} {f : Fn} {as : List Sl} (h : as.length = f.ps.length) : runFn Γ C FU f as = (runB Γ C FU f.body (startE f.N.length as)).bind fun fl => match fl with
    | .nx env => (outA as env).bind fun l => some (.v .none, l)
    | .rt r env => (outA as env).bind fun l => some (r, l)
    | _ => none := if_pos h
/-! a name's slot, cell by cell -/
def NB (t : Option Sl) : Prop := ∀ l, t ≠ some (.b l)
@[simp] theorem nb_n : NB none := fun _ h => nomatch h
@[simp] theorem nb_v (d : PyData) : NB (some (.v d)) := fun _ h => nomatch h
@[simp] theorem nb_o (d : List PyData) : NB (some (.o d)) := fun _ h => nomatch h
section
variable {t : Option Sl} {r : En}
@[simp] theorem put_0 (s : Sl) (h : NB t) : En.put (t :: r) 0 s = some (some s :: r) := by
  unfold En.put
  rw [at_zero]
  match t, h with
  | none, _ => rfl
  | some (.v _), _ => rfl
  | some (.o _), _ => rfl
  | some (.b l), h => exact absurd rfl (h l)
@[simp] theorem put_1 (i : Nat) (s : Sl) : En.put (t :: r) (i + 1) s = (En.put r i s).map (t :: ·) := by
  unfold En.put
  rw [at_succ]
  cases h : En.at r i with
  | none => rfl
  | some w => cases w <;> rfl
@[simp] theorem use_0v (d : PyData) : useI (some (.v d) :: r) 0 = some (.v d, some (.v d) :: r) := rfl
@[simp] theorem use_0o (d : List PyData) : useI (some (.o d) :: r) 0 = some (.v (.list d), some (.v (.list d)) :: r) := rfl
@[simp] theorem use_1 (i : Nat) : useI (t :: r) (i + 1) = (useI r i).map fun p => (p.1, t :: p.2) := by
  unfold useI
  rw [at_succ]
  cases h : En.at r i with
  | none => rfl
  | some w => cases w <;> rfl
@[simp] theorem mut_0o (d : List PyData) : mutAt (some (.o d) :: r) 0 = true := rfl
@[simp] theorem mut_0b (d : List PyData) : mutAt (some (.b d) :: r) 0 = true := rfl
@[simp] theorem mut_1 (i : Nat) : mutAt (t :: r) (i + 1) = mutAt r i := rfl
@[simp] theorem atS_0o (d : List PyData) : atS (some (.o d) :: r) 0 = some d := rfl
@[simp] theorem atS_0b (d : List PyData) : atS (some (.b d) :: r) 0 = some d := rfl
@[simp] theorem atS_1 (i : Nat) : atS (t :: r) (i + 1) = atS r i := rfl
@[simp] theorem setS_0o (d e : List PyData) : setS (some (.o d) :: r) 0 e = some (some (.o e) :: r) := rfl
@[simp] theorem setS_0b (d e : List PyData) : setS (some (.b d) :: r) 0 e = some (some (.b e) :: r) := rfl
@[simp] theorem setS_1 (i : Nat) (e : List PyData) : setS (t :: r) (i + 1) e = (setS r i e).map (t :: ·) := by
  unfold setS
  rw [at_succ]
  cases h : En.at r i with
  | none => rfl
  | some w => cases w <;> rfl
end
/-! the bag -/
structure Bag where
  z : Int
  s : Int
  c : Int
  cells : List Int
def Bag.d (b : Bag) : List PyData := [.int b.z, .int b.s, .int b.c, .list (b.cells.map .int)]
structure Bag.Ok (b : Bag) (n : Nat) : Prop where
  s0 : 0 ≤ b.s
  s1 : b.s < 2147483647
  c0 : 0 ≤ b.c
  c1 : b.c ≤ n
  l : b.cells.length ≤ 63
theorem Bag.Ok.mono {b : Bag} {n m : Nat} (h : b.Ok n) (hm : n ≤ m) : b.Ok m := ⟨h.s0, h.s1, h.c0, Int.le_trans h.c1 (Int.ofNat_le.mpr hm), h.l⟩
def takeF : Fn := { name := "_law_take", ps := ["_law_bag_here", "_law_many"], N := ["_law_bag_here", "_law_many", "_law_begin", "_law_second", "_law_cell", "_law_stirred", "_law_value"], body := (.cons (.cond (.e (.cmp .Eq (.ix (.x 0) (.k (.int 0))) (.k (.int 0)))) (.cons (.set 4 (.ix (.bin .Add (.sl (.ix (.x 0) (.k (.int 3))) (.so (.ix (.x 0) (.k (.int 2)))) .no) (.lst (.cons (.k (.int 0)) .nil))) (.k (.int 0)))) (.cons (.aix 0 (.k (.int 2)) .Add (.k (.int 1))) (.cons (.cond (.e (.cmp .GtE (.x 4) (.bin .Pow (.k (.int 10)) (.k (.int 18))))) (.cons (.six 0 (.k (.int 0)) (.x 4)) .nil) .nil) (.cons (.set 5 (.bin .Add (.bin .Add (.bin .Mult (.ix (.x 0) (.k (.int 1))) (.k (.int 48271))) (.bin .Mod (.fn .int (.cons (.x 4) .nil)) (.k (.int 2147483647)))) (.bin .Mult (.k (.int 7919)) (.ix (.x 0) (.k (.int 2)))))) (.cons (.six 0 (.k (.int 1)) (.bin .Mod (.fn .int (.cons (.x 5) .nil)) (.k (.int 2147483647)))) .nil))))) .nil) (.cons (.cond (.e (.cmp .Gt (.ix (.x 0) (.k (.int 0))) (.k (.int 0)))) (.cons (.set 6 (.bin .Mod (.fn .int (.cons (.ix (.x 0) (.k (.int 0))) .nil)) (.x 1))) (.cons (.six 0 (.k (.int 0)) (.bin .FloorDiv (.fn .int (.cons (.ix (.x 0) (.k (.int 0))) .nil)) (.x 1))) (.cons (.retx 6) .nil))) .nil) (.cons (.set 2 (.bin .Mod (.fn .int (.cons (.bin .Mult (.bin .Add (.ix (.x 0) (.k (.int 1))) (.k (.int 1))) (.k (.int 39373))) .nil)) (.k (.int 1000000007)))) (.cons (.set 3 (.bin .Mod (.fn .int (.cons (.bin .Mult (.bin .Mod (.fn .int (.cons (.bin .Mult (.x 2) (.x 2)) .nil)) (.k (.int 998244353))) (.k (.int 30011))) .nil)) (.k (.int 998244353)))) (.cons (.ret (.bin .Mod (.fn .int (.cons (.bin .FloorDiv (.x 3) (.k (.int 7))) .nil)) (.x 1))) .nil))))) }
theorem cut_0 (xs : List Int) (c : Option Int) : ∃ v : Int, atI (cutL (xs.map PyData.int) c none ++ [.int 0]) 0 = some (.int v) := by
  have e : cutL (xs.map PyData.int) c none = (cutL xs c none).map PyData.int := by
    unfold cutL
    rw [← List.map_drop, ← List.map_take, List.length_map]
  rw [e]
  cases cutL xs c none with
  | nil => exact ⟨0, atI_0 _ _⟩
  | cons v r => exact ⟨v, atI_0 _ _⟩
theorem cut_len {α : Type} (xs : List α) (a b : Option Int) : (cutL xs a b).length ≤ xs.length := by
  unfold cutL
  simp only [List.length_take, List.length_drop]
  omega
theorem ixN3 (n : Nat) (i : Int) (h0 : 0 ≤ i) (h : i < n) : ixN n i = some i.toNat := by
  unfold ixN
  simp [h0, h]
theorem take_run {Γ : Tab} {C : List (Str × PyData)} {FU : Nat} (b : Bag) (m : Int) (n : Nat) (h : b.Ok n) (hn : n ≤ 10 ^ 9) (hm : 0 < m) (hm2 : m.natAbs < 10 ^ 60) :
    ∃ (r : Int) (b' : Bag), runFn Γ C FU takeF [.b b.d, .v (.int m)] = some (.v (.int r), b'.d) ∧ 0 ≤ r ∧ r < m ∧ b'.Ok (n + 1) := by
  obtain ⟨z, s, c, cells⟩ := b
  obtain ⟨s0, s1, c0, c1, l⟩ := h
  simp only at s0 s1 c0 c1 l
  obtain ⟨v, ev⟩ := cut_0 cells (some c)
  have hL : (cutL (cells.map PyData.int) (some c) none).length + 1 ≤ sizeLine := by
    have h1 := cut_len (cells.map PyData.int) (some c) none
    rw [List.length_map] at h1
    have h2 : (64 : Nat) ≤ sizeLine := by decide
    omega
  have x1 : binD .Mult (.int s) (.int 48271) = some (.v (.int (s * 48271))) := mulB (by omega) (by decide)
  have x2 : binD .Mult (.int 7919) (.int (c + 1)) = some (.v (.int (7919 * (c + 1)))) := mulB (by decide) (by omega)
  have x3 (w : Int) : binD .Mod (.int w) (.int 2147483647) = some (.v (.int (w % 2147483647))) := modB (by decide)
  have x4 (w : Int) : binD .Mod (.int w) (.int m) = some (.v (.int (w % m))) := modB hm
  have x5 (w : Int) : binD .FloorDiv (.int w) (.int m) = some (.v (.int (w / m))) := fdivB hm hm2
  have x6 : binD .Pow (.int 10) (.int 18) = some (.v (.int (10 ^ 18))) := rfl
  have x7 : binD .Add (.list (cutL (cells.map PyData.int) (some c) none)) (.list [.int 0]) = some (.o (cutL (cells.map PyData.int) (some c) none ++ [.int 0])) := if_pos hL
  have y1 (w : Int) (h0 : 0 ≤ w) (h1 : w < 2147483647) : binD .Mult (.int (w + 1)) (.int 39373) = some (.v (.int ((w + 1) * 39373))) := mulB (by omega) (by decide)
  have y2 (w : Int) : binD .Mult (.int (w % 1000000007)) (.int (w % 1000000007)) = some (.v (.int ((w % 1000000007) * (w % 1000000007)))) := mulB (by omega) (by omega)
  have y3 (w : Int) : binD .Mult (.int (w % 998244353)) (.int 30011) = some (.v (.int (w % 998244353 * 30011))) := mulB (by omega) (by decide)
  have x8 (w : Int) : binD .Mod (.int w) (.int 1000000007) = some (.v (.int (w % 1000000007))) := modB (by decide)
  have x9 (w : Int) : binD .Mod (.int w) (.int 998244353) = some (.v (.int (w % 998244353))) := modB (by decide)
  have xa (w : Int) : binD .FloorDiv (.int w) (.int 7) = some (.v (.int (w / 7))) := fdivB (by decide) (by decide)
  have i0 (a b c d : PyData) : atI [a, b, c, d] 0 = some a := rfl
  have i1 (a b c d : PyData) : atI [a, b, c, d] 1 = some b := rfl
  have i2 (a b c d : PyData) : atI [a, b, c, d] 2 = some c := rfl
  have i3 (a b c d : PyData) : atI [a, b, c, d] 3 = some d := rfl
  have j0 : ixN 4 0 = some 0 := rfl
  have j1 : ixN 4 1 = some 1 := rfl
  have j2 : ixN 4 2 = some 2 := rfl
  have S1 : (1 : Nat) ≤ sizeLine := by decide
  rw [runFn_eq rfl]
  show ∃ (r : Int) (b' : Bag), (runB Γ C FU takeF.body [some (.b [.int z, .int s, .int c, .list (cells.map .int)]), some (.v (.int m)), none, none, none, none, none]).bind _ = _ ∧ _
  by_cases hz : z = 0
  · subst hz
    by_cases hv : (1000000000000000000 : Int) ≤ v
    · have hv0 : (0 : Int) < v := Int.lt_of_lt_of_le (by decide) hv
      refine ⟨v % m, ⟨v / m, (s * 48271 + v % 2147483647 + 7919 * (c + 1)) % 2147483647, c + 1, cells⟩, ?_, Int.emod_nonneg _ (by omega), Int.emod_lt_of_pos _ hm, ⟨Int.emod_nonneg _ (by decide), Int.emod_lt_of_pos _ (by decide), ?_, ?_, l⟩⟩
      · simp [takeF, runS_aix, runS_six, runS_retx, x1, x2, x3, x4, x5, x6, x7, ev, hv, hv0, i0, i1, i2, i3, j0, j1, j2, S1, Bag.d, outA]
      · show 0 ≤ c + 1
        omega
      · show c + 1 ≤ ((n + 1 : Nat) : Int)
        omega
    · refine ⟨((((s * 48271 + v % 2147483647 + 7919 * (c + 1)) % 2147483647 + 1) * 39373 % 1000000007) * (((s * 48271 + v % 2147483647 + 7919 * (c + 1)) % 2147483647 + 1) * 39373 % 1000000007) % 998244353 * 30011 % 998244353 / 7) % m, ⟨0, (s * 48271 + v % 2147483647 + 7919 * (c + 1)) % 2147483647, c + 1, cells⟩, ?_, Int.emod_nonneg _ (by omega), Int.emod_lt_of_pos _ hm, ⟨Int.emod_nonneg _ (by decide), Int.emod_lt_of_pos _ (by decide), ?_, ?_, l⟩⟩
      · have g1 := y1 ((s * 48271 + v % 2147483647 + 7919 * (c + 1)) % 2147483647) (Int.emod_nonneg _ (by decide)) (Int.emod_lt_of_pos _ (by decide))
        simp [takeF, runS_aix, runS_six, runS_retx, x1, x2, x3, x4, x5, x6, x7, x8, x9, xa, g1, y2, y3, ev, hv, i0, i1, i2, i3, j0, j1, j2, S1, Bag.d, outA]
      · show 0 ≤ c + 1
        omega
      · show c + 1 ≤ ((n + 1 : Nat) : Int)
        omega
  · by_cases hz1 : 0 < z
    · refine ⟨z % m, ⟨z / m, s, c, cells⟩, ?_, Int.emod_nonneg _ (by omega), Int.emod_lt_of_pos _ hm, ⟨s0, s1, c0, by show c ≤ ((n + 1 : Nat) : Int); omega, l⟩⟩
      simp [takeF, runS_aix, runS_six, runS_retx, x4, x5, hz, hz1, i0, i1, i2, i3, j0, j1, j2, S1, Bag.d, outA]
    · refine ⟨(((s + 1) * 39373 % 1000000007) * ((s + 1) * 39373 % 1000000007) % 998244353 * 30011 % 998244353 / 7) % m, ⟨z, s, c, cells⟩, ?_, Int.emod_nonneg _ (by omega), Int.emod_lt_of_pos _ hm, ⟨s0, s1, c0, by show c ≤ ((n + 1 : Nat) : Int); omega, l⟩⟩
      have g1 := y1 s s0 s1
      simp [takeF, runS_aix, runS_six, runS_retx, x4, x5, x8, x9, xa, g1, y2, y3, hz, hz1, i0, i1, i2, i3, j0, j1, j2, S1, Bag.d, outA]
end PF

/-! PF17: loops by what they keep; the other helpers. -/
namespace PF
open PySem L2
theorem forD_keep {body : PyData → En → Option Fl} (I : Nat → En → Prop) : ∀ (ds : List PyData) (k : Nat) (env : En), I k env →
    (∀ i (hi : i < ds.length) e, I (k + i) e → ∃ e', body ds[i] e = some (.nx e') ∧ I (k + i + 1) e') → ∃ e, forD body ds env = some (.nx e) ∧ I (k + ds.length) e
  | [], k, env, h, _ => ⟨env, rfl, h⟩
  | d :: r, k, env, h, H => by
    obtain ⟨e1, h1, h2⟩ := H 0 (by simp) env h
    obtain ⟨e2, h3, h4⟩ := forD_keep I r (k + 1) e1 h2 (fun i hi e he => by
      have := H (i + 1) (by simp; omega) e (by rw [show k + (i + 1) = k + 1 + i by omega]; exact he)
      rw [show k + (i + 1) + 1 = k + 1 + i + 1 by omega] at this
      exact this)
    refine ⟨e2, ?_, by rw [List.length_cons, show k + (r.length + 1) = k + 1 + r.length by omega]; exact h4⟩
    show (body d env).bind _ = _
    rw [show body d env = some (.nx e1) from h1]
    exact h3
theorem forD_rng {body : PyData → En → Option Fl} (I : Nat → En → Prop) (lo : Int) (n : Nat) (env : En) (h : I 0 env)
    (H : ∀ i, i < n → ∀ e, I i e → ∃ e', body (.int (lo + i)) e = some (.nx e') ∧ I (i + 1) e') : ∃ e, forD body (rngD lo n) env = some (.nx e) ∧ I n e := by
  have hl : (rngD lo n).length = n := by simp [rngD]
  obtain ⟨e, h1, h2⟩ := forD_keep I (rngD lo n) 0 env h (fun i hi e he => by
    rw [Nat.zero_add] at he ⊢
    have e1 : (rngD lo n)[i] = .int (lo + i) := by simp [rngD]
    rw [e1]
    exact H i (hl ▸ hi) e he)
  rw [Nat.zero_add, hl] at h2
  exact ⟨e, h1, h2⟩
theorem compD_map {turn : PyData → En → Option (Option PyData × En)} (f : PyData → PyData) (env : En) : ∀ ds : List PyData, (∀ d ∈ ds, turn d env = some (some (f d), env)) → compD turn ds env = some (ds.map f, env)
  | [], _ => rfl
  | d :: r, h => by
    have ih := compD_map f env r (fun x hx => h x (List.mem_cons_of_mem _ hx))
    show (turn d env).bind _ = _
    rw [h d (List.mem_cons_self ..)]
    show (compD turn r env).bind _ = _
    rw [ih]
    rfl
def bagF : Fn := { name := "_law_bag", ps := ["_law_script"], N := ["_law_script", "_law_cell"], body := (.cons (.ret (.lst (.cons (.k (.int 0)) (.cons (.k (.int 1234567891)) (.cons (.k (.int 0)) (.cons (.lc [("_law_cell", 1)] (.n 1) (.e (.sl (.x 0) .no (.so (.k (.int 63))))) .yes (.fn .abs (.cons (.x 1) .nil))) .nil)))))) .nil) }
def absD : PyData → PyData
  | .int i => .int (if i < 0 then -i else i)
  | d => d
def bag0 (ns : List Int) : Bag := ⟨0, 1234567891, 0, ns.map fun i => if i < 0 then -i else i⟩
theorem bag0_ok (ns : List Int) (h : ns.length ≤ 63) : (bag0 ns).Ok 0 := ⟨by simp [bag0], by simp [bag0], by simp [bag0], by simp [bag0], by simpa [bag0] using h⟩
theorem cut_all {α : Type} (xs : List α) (h : xs.length ≤ 63) : cutL xs none (some 63) = xs := by
  have e : HT.sIx xs.length xs.length (some 63) = xs.length := by
    show (if (63 : Int) < 0 then ((63 : Int) + (xs.length : Int)).toNat else min (63 : Int).toNat xs.length) = _
    rw [if_neg (by decide)]
    show min 63 xs.length = _
    omega
  unfold cutL
  rw [e]
  simp [HT.sIx]
theorem bag_run {Γ : Tab} {C : List (Str × PyData)} {FU : Nat} (ns : List Int) (h : ns.length ≤ 63) : runFn Γ C FU bagF [.v (.list (ns.map .int))] = some (.o (bag0 ns).d, []) := by
  rw [runFn_eq rfl]
  show (runB Γ C FU bagF.body [some (.v (.list (ns.map .int))), none]).bind _ = _
  have e1 : cutL (ns.map PyData.int) none (some 63) = ns.map PyData.int := cut_all _ (by simpa using h)
  have e2 : compD (lcTurn Γ C [("_law_cell", 1)] (.n 1) .yes (.fn .abs (.cons (.x 1) .nil))) (ns.map .int) [some (.v (.list (ns.map .int))), none] = some ((ns.map PyData.int).map absD, [some (.v (.list (ns.map .int))), none]) := by
    apply compD_map
    intro d hd
    obtain ⟨i, _, rfl⟩ := List.mem_map.mp hd
    rfl
  have e3 : (ns.map PyData.int).length ≤ sizeLine := by
    rw [List.length_map]
    have : (63 : Nat) ≤ sizeLine := by decide
    omega
  have e4 : (4 : Nat) ≤ sizeLine := by decide
  simp [bagF, runE_lc, noOwn, wipeE, backE, e1]
  erw [e2]
  have e5 : (ns.map PyData.int).map absD = (bag0 ns).cells.map PyData.int := by
    simp [bag0, absD]
  simp only [e5]
  have e6 : (bag0 ns).cells.length ≤ sizeLine := by simpa [bag0] using e3
  simp [e6, e4, outA, Bag.d]
  exact ⟨rfl, rfl, rfl⟩
/-! equal data are alike -/
mutual
theorem short_of_show : ∀ d : PyData, d.showable = true → d.intsShort 1921 = true
  | .none, _ => rfl
  | .bool _, _ => rfl
  | .str _, _ => rfl
  | .dict _, _ => rfl
  | .int i, h => by
    have h1 : i.natAbs.log2 < 1920 := by simpa [PyData.showable] using h
    have h2 : (PyData.shown (.int i)).length ≤ 1921 := PyProof.Rows.int_text_len_1921 h1
    simpa [PyData.intsShort] using h2
  | .list xs, h => by
    have := short_of_showAll xs (by simpa [PyData.showable] using h)
    simpa [PyData.intsShort] using this
  | .tuple xs, h => by
    have := short_of_showAll xs (by simpa [PyData.showable] using h)
    simpa [PyData.intsShort] using this
theorem short_of_showAll : ∀ xs : List PyData, PyData.showableAll xs = true → PyData.intsShortAll 1921 xs = true
  | [], _ => rfl
  | x :: r, h => by
    have h' : x.showable = true ∧ PyData.showableAll r = true := by simpa [PyData.showableAll] using h
    have h1 := short_of_show x h'.1
    have h2 := short_of_showAll r h'.2
    simp [PyData.intsShortAll, h1, h2]
end
theorem ok_app {x y : Str} (h : PyData.strOk x = true) (h' : PyData.strOk y = true) : PyData.strOk (x ++ y) = true := by
  have h : x.cps.all (· < 0x110000) = true := h
  have h' : y.cps.all (· < 0x110000) = true := h'
  show (x.cps ++ y.cps).all (· < 0x110000) = true
  rw [Array.all_append, h, h']
  rfl
theorem ok_join {s : Str} (hs : PyData.strOk s = true) : ∀ ts : List Str, (∀ t ∈ ts, PyData.strOk t = true) → PyData.strOk (Str.join s ts) = true
  | [], _ => by
    have e : Str.join s [] = Str.ofString "" := rfl
    rw [e]
    decide +kernel
  | [x], h => h x (by simp)
  | x :: y :: r, h => by
    have ih := ok_join hs (y :: r) (fun t ht => h t (List.mem_cons_of_mem _ ht))
    show PyData.strOk (x ++ s ++ Str.join s (y :: r)) = true
    exact ok_app (ok_app (h x (by simp)) hs) ih
mutual
def nost : PyData → Bool
  | .none => true
  | .bool _ => true
  | .int _ => true
  | .str _ => false
  | .list xs => nostA xs
  | .tuple xs => nostA xs
  | .dict _ => false
def nostA : List PyData → Bool
  | [] => true
  | x :: r => nost x && nostA r
end
theorem ok_int (i : Int) : PyData.strOk (PyData.shown (.int i)) = true := by
  show (Str.ofString (toString i)).cps.all (· < 0x110000) = true
  rw [Str.ofString_eq_toList]
  simp only [List.all_toArray, List.all_map, List.all_eq_true]
  intro c hc
  have := int_ascii i c hc
  simp only [Function.comp, decide_eq_true_eq]
  omega
mutual
theorem ok_show : ∀ d : PyData, nost d = true → PyData.strOk d.shown = true
  | .none, _ => by decide +kernel
  | .bool true, _ => by decide +kernel
  | .bool false, _ => by decide +kernel
  | .int i, _ => ok_int i
  | .list xs, h => by
    rw [PyData.shown_list]
    exact ok_app (ok_app (by decide +kernel) (ok_join (by decide +kernel) _ (ok_showA xs (by simpa [nost] using h)))) (by decide +kernel)
  | .tuple xs, h => by
    rw [PyData.shown_tuple]
    refine ok_app (ok_app (by decide +kernel) (ok_join (by decide +kernel) _ (ok_showA xs (by simpa [nost] using h)))) ?_
    split <;> decide +kernel
theorem ok_showA : ∀ xs : List PyData, nostA xs = true → ∀ t ∈ PyData.shownAll xs, PyData.strOk t = true
  | [], _ => fun t ht => by simp [PyData.shownAll] at ht
  | x :: r, h => by
    have h' : nost x = true ∧ nostA r = true := by simpa [nostA] using h
    intro t ht
    rw [PyData.shownAll_cons] at ht
    rcases List.mem_cons.mp ht with e | e
    · subst e
      exact ok_show x h'.1
    · exact ok_showA r h'.2 t e
end
structure Alk (d : PyData) : Prop where
  lay : d.canLay0 = true
  sh : d.showable = true
  dp : d.depth ≤ 60
  bk : d.bulk ≤ 8000
  ns : nost d = true
def alikeF : Fn := { name := "_law_alike", ps := ["_law_found", "_law_due"], N := ["_law_found", "_law_due"], body := (.cons (.ret (.and (.cmp .Eq (.x 0) (.x 1)) (.cmp .Eq (.fn .repr (.cons (.x 0) .nil)) (.fn .repr (.cons (.x 1) .nil))))) .nil) }
theorem alike_run {Γ : Tab} {C : List (Str × PyData)} {FU : Nat} {d : PyData} (h : Alk d) : runFn Γ C FU alikeF [.v d, .v d] = some (.v (.bool true), []) := by
  have s1 : SeqAt.shaped d = true := by
    have := h.dp
    simp [SeqAt.shaped, h.lay]
    omega
  have e1 : cmpD .Eq d d = some true := by
    rw [eq_any s1 s1, SeqAt.eqv_refl d h.lay]
  have l1 := PyData.shown_le_bulk 1921 (by decide +kernel) d (PyData.leavesShort_of_canLay0 _ d h.lay (short_of_show d h.sh))
  have l2 : d.shown.length ≤ sizeLine := by
    have := h.bk
    have : (16777216 : Nat) = sizeLine := rfl
    omega
  have e2 : fnD .repr [d] = some (.v (.str d.shown)) := if_pos ⟨h.sh, l2, PyData.hasDict_of_canLay d h.lay, h.dp⟩
  have s2 : SeqAt.shaped (.str d.shown) = true := by
    simp [SeqAt.shaped, PyData.canLay0, PyData.depth, ok_show d h.ns]
  have e3 : cmpD .Eq (.str d.shown) (.str d.shown) = some true := by
    rw [eq_any s2 s2]
    simp [PyData.eqv]
  rw [runFn_eq rfl]
  show (runB Γ C FU alikeF.body [some (.v d), some (.v d)]).bind _ = _
  simp [alikeF, e1, e2, e3, outA]
theorem ints_parts : ∀ l : List Int, (∀ i ∈ l, i.natAbs.log2 < 1920) → PyData.canLayAll0 (l.map .int) = true ∧ PyData.showableAll (l.map .int) = true ∧ PyData.depthAll (l.map .int) = 0 ∧ PyData.bulkAll (l.map .int) = l.length ∧ nostA (l.map .int) = true
  | [], _ => ⟨rfl, rfl, rfl, rfl, rfl⟩
  | i :: r, h => by
    obtain ⟨h1, h2, h3, h4, h5⟩ := ints_parts r (fun x hx => h x (List.mem_cons_of_mem _ hx))
    have h0 := h i (by simp)
    simp [PyData.canLayAll0, PyData.canLay0, PyData.showableAll, PyData.showable, PyData.depthAll, PyData.depth, PyData.bulkAll, PyData.bulk, nostA, nost, h0, h1, h2, h3, h4, h5]
    omega
theorem alk_ints (l : List Int) (h : ∀ i ∈ l, i.natAbs.log2 < 1920) (hl : l.length ≤ 4000) : Alk (.list (l.map .int)) := by
  obtain ⟨h1, h2, h3, h4, h5⟩ := ints_parts l h
  exact ⟨by simp [PyData.canLay0, h1], by simp [PyData.showable, h2], by simp [PyData.depth, h3], by simp [PyData.bulk, h4]; omega, by simp [nost, h5]⟩
theorem alk_ints_t (l : List Int) (h : ∀ i ∈ l, i.natAbs.log2 < 1920) (hl : l.length ≤ 4000) : Alk (.tuple (l.map .int)) := by
  obtain ⟨h1, h2, h3, h4, h5⟩ := ints_parts l h
  exact ⟨by simp [PyData.canLay0, h1], by simp [PyData.showable, h2], by simp [PyData.depth, h3], by simp [PyData.bulk, h4]; omega, by simp [nost, h5]⟩
theorem lg_int {i : Int} (h : i.natAbs < 10 ^ 60) : i.natAbs.log2 < 1920 := by
  have h1 : i.natAbs.log2 < 200 := lg (by decide) (Nat.lt_trans h (by decide))
  omega
end PF

namespace Lk51
open PySem PySem.Spec PyProof.Rows L2 PF
def topS (i : Nat) : Stmt := PySem.Challenge.pw_flutterheld_k51_the_field_of_97.main.body.getD i (.Pass ⟨0, 0, 0, 0⟩)
/-- field_sum -/
def b0 : IB := (.cons (.ret (.bin .Mod (.bin .Add (.x 0) (.x 1)) (.g "PRIME"))) .nil)
def d0 : Fn := { name := "field_sum", ps := ["one", "other"], N := ["one", "other"], body := b0 }
/-- field_less -/
def b1 : IB := (.cons (.ret (.bin .Mod (.bin .Sub (.x 0) (.x 1)) (.g "PRIME"))) .nil)
def d1 : Fn := { name := "field_less", ps := ["one", "other"], N := ["one", "other"], body := b1 }
/-- field_product -/
def b2 : IB := (.cons (.ret (.bin .Mod (.bin .Mult (.x 0) (.x 1)) (.g "PRIME"))) .nil)
def d2 : Fn := { name := "field_product", ps := ["one", "other"], N := ["one", "other"], body := b2 }
/-- field_inverse -/
def b3 : IB := (.cons (.set 1 (.k (.int 1))) (.cons (.for (.n 2) (.r1 (.bin .Sub (.g "PRIME") (.k (.int 2)))) (.cons (.set 1 (.call 2 (.cons (.x 1) (.cons (.x 0) .nil)))) .nil)) (.cons (.retx 1) .nil)))
def d3 : Fn := { name := "field_inverse", ps := ["one"], N := ["one", "found", "index"], body := b3 }
/-- _law_bag -/
def b4 : IB := (.cons (.ret (.lst (.cons (.k (.int 0)) (.cons (.k (.int 1234567891)) (.cons (.k (.int 0)) (.cons (.lc [("_law_cell", 1)] (.n 1) (.e (.sl (.x 0) .no (.so (.k (.int 63))))) .yes (.fn .abs (.cons (.x 1) .nil))) .nil)))))) .nil)
def d4 : Fn := { name := "_law_bag", ps := ["_law_script"], N := ["_law_script", "_law_cell"], body := b4 }
/-- _law_take -/
def b5 : IB := (.cons (.cond (.e (.cmp .Eq (.ix (.x 0) (.k (.int 0))) (.k (.int 0)))) (.cons (.set 4 (.ix (.bin .Add (.sl (.ix (.x 0) (.k (.int 3))) (.so (.ix (.x 0) (.k (.int 2)))) .no) (.lst (.cons (.k (.int 0)) .nil))) (.k (.int 0)))) (.cons (.aix 0 (.k (.int 2)) .Add (.k (.int 1))) (.cons (.cond (.e (.cmp .GtE (.x 4) (.bin .Pow (.k (.int 10)) (.k (.int 18))))) (.cons (.six 0 (.k (.int 0)) (.x 4)) .nil) .nil) (.cons (.set 5 (.bin .Add (.bin .Add (.bin .Mult (.ix (.x 0) (.k (.int 1))) (.k (.int 48271))) (.bin .Mod (.fn .int (.cons (.x 4) .nil)) (.k (.int 2147483647)))) (.bin .Mult (.k (.int 7919)) (.ix (.x 0) (.k (.int 2)))))) (.cons (.six 0 (.k (.int 1)) (.bin .Mod (.fn .int (.cons (.x 5) .nil)) (.k (.int 2147483647)))) .nil))))) .nil) (.cons (.cond (.e (.cmp .Gt (.ix (.x 0) (.k (.int 0))) (.k (.int 0)))) (.cons (.set 6 (.bin .Mod (.fn .int (.cons (.ix (.x 0) (.k (.int 0))) .nil)) (.x 1))) (.cons (.six 0 (.k (.int 0)) (.bin .FloorDiv (.fn .int (.cons (.ix (.x 0) (.k (.int 0))) .nil)) (.x 1))) (.cons (.retx 6) .nil))) .nil) (.cons (.set 2 (.bin .Mod (.fn .int (.cons (.bin .Mult (.bin .Add (.ix (.x 0) (.k (.int 1))) (.k (.int 1))) (.k (.int 39373))) .nil)) (.k (.int 1000000007)))) (.cons (.set 3 (.bin .Mod (.fn .int (.cons (.bin .Mult (.bin .Mod (.fn .int (.cons (.bin .Mult (.x 2) (.x 2)) .nil)) (.k (.int 998244353))) (.k (.int 30011))) .nil)) (.k (.int 998244353)))) (.cons (.ret (.bin .Mod (.fn .int (.cons (.bin .FloorDiv (.x 3) (.k (.int 7))) .nil)) (.x 1))) .nil)))))
def d5 : Fn := { name := "_law_take", ps := ["_law_bag_here", "_law_many"], N := ["_law_bag_here", "_law_many", "_law_begin", "_law_second", "_law_cell", "_law_stirred", "_law_value"], body := b5 }
/-- _law_some -/
def b6 : IB := (.cons (.ret (.ix (.x 1) (.call 5 (.io 0 (.cons (.fn .len (.cons (.x 1) .nil)) .nil))))) .nil)
def d6 : Fn := { name := "_law_some", ps := ["_law_bag_here", "_law_things"], N := ["_law_bag_here", "_law_things"], body := b6 }
/-- _law_alike -/
def b7 : IB := (.cons (.ret (.and (.cmp .Eq (.x 0) (.x 1)) (.cmp .Eq (.fn .repr (.cons (.x 0) .nil)) (.fn .repr (.cons (.x 1) .nil))))) .nil)
def d7 : Fn := { name := "_law_alike", ps := ["_law_found", "_law_due"], N := ["_law_found", "_law_due"], body := b7 }
/-- _law_is_int -/
def b8 : IB := (.cons (.ret (.and (.isi (.x 0) "int") (.not (.isi (.x 0) "bool")))) .nil)
def d8 : Fn := { name := "_law_is_int", ps := ["_law_thing"], N := ["_law_thing"], body := b8 }
/-- law -/
def b9 : IB := (.cons (.set 1 (.call 4 (.cons (.x 0) .nil))) (.cons (.for (.n 2) (.r1 (.k (.int 20))) (.cons (.par3 3 4 5 (.call 5 (.io 1 (.cons (.k (.int 97)) .nil))) (.call 6 (.io 1 (.cons (.lst (.cons (.call 5 (.io 1 (.cons (.k (.int 97)) .nil))) (.cons (.k (.int 0)) (.cons (.k (.int 96)) .nil)))) .nil))) (.call 5 (.io 1 (.cons (.k (.int 97)) .nil)))) (.cons (.set 6 (.lst (.cons (.bin .Mod (.bin .Add (.x 3) (.x 4)) (.k (.int 97))) (.cons (.bin .Mod (.bin .Sub (.x 3) (.x 4)) (.k (.int 97))) (.cons (.bin .Mod (.bin .Mult (.x 3) (.x 4)) (.k (.int 97))) .nil))))) (.cons (.cond (.not (.e (.call 7 (.cons (.lst (.cons (.call 0 (.cons (.x 3) (.cons (.x 4) .nil))) (.cons (.call 1 (.cons (.x 3) (.cons (.x 4) .nil))) (.cons (.call 2 (.cons (.x 3) (.cons (.x 4) .nil))) .nil)))) (.cons (.x 6) .nil))))) (.cons (.ret (.k (.bool false))) .nil) .nil) (.cons (.cond (.e (.cmp .NotEq (.call 2 (.cons (.x 3) (.cons (.call 0 (.cons (.x 4) (.cons (.x 5) .nil))) .nil))) (.call 0 (.cons (.call 2 (.cons (.x 3) (.cons (.x 4) .nil))) (.cons (.call 2 (.cons (.x 3) (.cons (.x 5) .nil))) .nil))))) (.cons (.ret (.k (.bool false))) .nil) .nil) .nil))))) (.cons (.for (.n 3) (.r2 (.k (.int 1)) (.k (.int 97))) (.cons (.set 7 (.call 3 (.cons (.x 3) .nil))) (.cons (.cond (.or (.not (.e (.call 8 (.cons (.x 7) .nil)))) (.or (.not (.e (.ch .Lt .Lt (.k (.int 0)) (.x 7) (.k (.int 97))))) (.e (.cmp .NotEq (.bin .Mod (.bin .Mult (.x 3) (.x 7)) (.k (.int 97))) (.k (.int 1)))))) (.cons (.ret (.k (.bool false))) .nil) .nil) .nil))) (.cons (.ret (.k (.bool true))) .nil))))
def d9 : Fn := { name := "law", ps := ["_law_script"], N := ["_law_script", "_law_bag_here", "_law_turn", "_law_a", "_law_b", "_law_c", "_law_due", "_law_other"], body := b9 }
def defs : List Fn := [d0, d1, d2, d3, d4, d5, d6, d7, d8, d9]
def fns : List Str := defs.map (·.name)
def cons : List (Str × PyData) := [("PRIME", (.int 97))]
theorem chk0 : chkD fns cons d0 (topS 2) = true := by decide +kernel
theorem chk1 : chkD fns cons d1 (topS 3) = true := by decide +kernel
theorem chk2 : chkD fns cons d2 (topS 4) = true := by decide +kernel
theorem chk3 : chkD fns cons d3 (topS 5) = true := by decide +kernel
theorem chk4 : chkD fns cons d4 (topS 7) = true := by decide +kernel
theorem chk5 : chkD fns cons d5 (topS 8) = true := by decide +kernel
theorem chk6 : chkD fns cons d6 (topS 9) = true := by decide +kernel
theorem chk7 : chkD fns cons d7 (topS 10) = true := by decide +kernel
theorem chk8 : chkD fns cons d8 (topS 11) = true := by decide +kernel
theorem chk9 : chkD fns cons d9 (topS 12) = true := by decide +kernel
def FU : Nat := 10
theorem run_at (n f : Nat) (as : List Sl) (fn : Fn) (h : defs[f]? = some fn) : runP cons FU defs (n + 1) f as = runFn (runP cons FU defs n) cons FU fn as := by
  show (defs[f]?).bind _ = _
  rw [h]
  rfl
theorem sum_at (n : Nat) (a b : Int) : runP cons FU defs (n + 1) 0 [.v (.int a), .v (.int b)] = some (.v (.int ((a + b) % 97)), []) := rfl
theorem less_at (n : Nat) (a b : Int) : runP cons FU defs (n + 1) 1 [.v (.int a), .v (.int b)] = some (.v (.int ((a - b) % 97)), []) := rfl
theorem prod_at (n : Nat) (a b : Int) (h : a.natAbs < 10 ^ 60) (h' : b.natAbs < 10 ^ 60) : runP cons FU defs (n + 1) 2 [.v (.int a), .v (.int b)] = some (.v (.int (a * b % 97)), []) := by
  rw [run_at n 2 _ d2 rfl, runFn_eq rfl]
  show (runB _ cons FU d2.body [some (.v (.int a)), some (.v (.int b))]).bind _ = _
  simp [d2, b2, mulB h h', cons, outA]
theorem take_at (n : Nat) (b : Bag) (m : Int) (k : Nat) (h : b.Ok k) (hn : k ≤ 10 ^ 9) (hm : 0 < m) (hm2 : m.natAbs < 10 ^ 60) :
    ∃ (r : Int) (b' : Bag), runP cons FU defs (n + 1) 5 [.b b.d, .v (.int m)] = some (.v (.int r), b'.d) ∧ 0 ≤ r ∧ r < m ∧ b'.Ok (k + 1) := by
  rw [run_at n 5 _ d5 rfl]
  exact take_run b m k h hn hm hm2
theorem some_at (n : Nat) (b : Bag) (xs : List PyData) (k : Nat) (h : b.Ok k) (hn : k ≤ 10 ^ 9) (hx : 0 < xs.length) (hx2 : xs.length < 10 ^ 60) :
    ∃ (r : Nat) (hr : r < xs.length) (b' : Bag), runP cons FU defs (n + 2) 6 [.b b.d, .v (.list xs)] = some (.v xs[r], b'.d) ∧ b'.Ok (k + 1) := by
  obtain ⟨r, b', e, h0, h1, h2⟩ := take_at n b xs.length k h hn (by omega) (by simpa using hx2)
  obtain ⟨j, rfl⟩ := Int.eq_ofNat_of_zero_le h0
  have hj : j < xs.length := by omega
  refine ⟨j, hj, b', ?_, h2⟩
  have e2 : atI xs ((j : Nat) : Int) = some xs[j] := atI_nat (List.getElem?_eq_getElem hj)
  rw [run_at (n + 1) 6 _ d6 rfl, runFn_eq rfl]
  show (runB _ cons FU d6.body [some (.b b.d), some (.v (.list xs))]).bind _ = _
  simp [d6, b6, e, e2, outA]
theorem alike_at (n : Nat) {d : PyData} (h : Alk d) : runP cons FU defs (n + 1) 7 [.v d, .v d] = some (.v (.bool true), []) := by
  rw [run_at n 7 _ d7 rfl]
  exact alike_run h
theorem int_at (n : Nat) (i : Int) : runP cons FU defs (n + 1) 8 [.v (.int i)] = some (.v (.bool true), []) := rfl
def pw (a : Int) : Nat → Int
  | 0 => 1
  | k + 1 => pw a k * a % 97
theorem pw_b (a : Int) (k : Nat) : 0 ≤ pw a k ∧ pw a k < 97 := by
  cases k with
  | zero => exact ⟨by simp [pw], by simp [pw]⟩
  | succ k => exact ⟨Int.emod_nonneg _ (by decide), Int.emod_lt_of_pos _ (by decide)⟩
theorem pw_all : ((List.range 96).all fun i => decide (0 < pw (1 + (i : Int)) 95) && decide ((1 + (i : Int)) * pw (1 + (i : Int)) 95 % 97 = 1)) = true := by decide +kernel
def bo0 : IB := match b3 with
  | .cons _ (.cons (.for _ _ b) _) => b
  | _ => .nil
theorem b3_eq : b3 = .cons (.set 1 (.k (.int 1))) (.cons (.for (.n 2) (.r1 (.bin .Sub (.g "PRIME") (.k (.int 2)))) bo0) (.cons (.retx 1) .nil)) := rfl
theorem cl : List.lookup (Str.ofString "PRIME") cons = some (PyData.int 97) := rfl
theorem inv_run (a : Int) (h : a.natAbs < 10 ^ 50) : runP cons FU defs 11 3 [.v (.int a)] = some (.v (.int (pw a 95)), []) := by
  rw [run_at 10 3 _ d3 rfl, runFn_eq rfl]
  show (runB _ cons FU b3 [some (.v (.int a)), none, none]).bind _ = _
  rw [b3_eq]
  obtain ⟨e, f, t, rfl, _⟩ := forD_rng (body := fun d en => (en.put 2 (.v d)).bind fun e1 => runB (runP cons FU defs 10) cons FU bo0 e1)
    (fun k e => ∃ t : Option Sl, e = [some (.v (.int a)), some (.v (.int (pw a k))), t] ∧ NB t) 0 95 [some (.v (.int a)), some (.v (.int 1)), none] ⟨none, rfl, by simp⟩ (by
      intro i hi e he
      obtain ⟨t, rfl, ht⟩ := he
      have b := pw_b a i
      have p1 := prod_at 9 (pw a i) a (by omega) (by omega)
      refine ⟨_, ?_, _, rfl, nb_v (.int (0 + i))⟩
      simp [bo0, b3, runG, ht, p1, pw])
  simp [runS_for, runS_retx, cl, f, outA]
theorem inv_at (i : Nat) (h : i < 96) : ∃ r : Int, runP cons FU defs 11 3 [.v (.int (1 + i))] = some (.v (.int r), []) ∧ 0 < r ∧ r < 97 ∧ (1 + i) * r % 97 = 1 := by
  have h1 := List.all_eq_true.mp pw_all i (List.mem_range.mpr h)
  simp only [Bool.and_eq_true, decide_eq_true_eq] at h1
  exact ⟨_, inv_run _ (by omega), h1.1, (pw_b _ _).2, h1.2⟩
theorem dist (a b c : Int) : a * ((b + c) % 97) % 97 = (a * b % 97 + a * c % 97) % 97 := by
  rw [Int.mul_emod, Int.emod_emod, ← Int.mul_emod, ← Int.add_emod, Int.mul_add]
def I1 (scr : PyData) (k : Nat) (e : En) : Prop := ∃ (b : Bag) (t2 t3 t4 t5 t6 : Option Sl), b.Ok (4 * k) ∧ e = [some (.v scr), some (.o b.d), t2, t3, t4, t5, t6, none] ∧ NB t2 ∧ NB t3 ∧ NB t4 ∧ NB t5 ∧ NB t6
theorem turn1 (scr : PyData) (i : Nat) (hi : i < 20) (e : En) (h : I1 scr i e) : ∃ e', (match b9 with
    | .cons _ (.cons (.for g _ b) _) => (runG g (.int (0 + i)) e).bind fun e1 => runB (runP cons FU defs 11) cons FU b e1
    | _ => none) = some (.nx e') ∧ I1 scr (i + 1) e' := by
  obtain ⟨b, t2, t3, t4, t5, t6, hb, rfl, n2, n3, n4, n5, n6⟩ := h
  obtain ⟨x, b1, q1, x0, x1, k1⟩ := take_at 10 b 97 (4 * i) hb (by omega) (by decide) (by decide)
  obtain ⟨y, b2, q2, y0, y1, k2⟩ := take_at 10 b1 97 _ k1 (by omega) (by decide) (by decide)
  obtain ⟨j, hj, b3, q3, k3⟩ := some_at 9 b2 [.int y, .int 0, .int 96] _ k2 (by omega) (by simp) (by simp)
  obtain ⟨w, hw, w0, w1⟩ : ∃ w : Int, [PyData.int y, .int 0, .int 96][j] = .int w ∧ 0 ≤ w ∧ w < 97 := by
    match j, hj with
    | 0, _ => exact ⟨y, rfl, y0, y1⟩
    | 1, _ => exact ⟨0, rfl, by decide, by decide⟩
    | 2, _ => exact ⟨96, rfl, by decide, by decide⟩
  rw [hw] at q3
  obtain ⟨v, b4, q4, v0, v1, k4⟩ := take_at 10 b3 97 _ k3 (by omega) (by decide) (by decide)
  have m1 : binD .Mult (.int x) (.int w) = some (.v (.int (x * w))) := mulB (by omega) (by omega)
  have p1 := prod_at 10 x w (by omega) (by omega)
  have p2 := prod_at 10 x v (by omega) (by omega)
  have p3 := prod_at 10 x ((w + v) % 97) (by omega) (by omega)
  have s1 := sum_at 10 x w
  have s2 := sum_at 10 w v
  have s3 := sum_at 10 (x * w % 97) (x * v % 97)
  have l1 := less_at 10 x w
  have a1 := alike_at 10 (d := .list [.int ((x + w) % 97), .int ((x - w) % 97), .int (x * w % 97)]) (alk_ints [(x + w) % 97, (x - w) % 97, x * w % 97] (by
    intro i hi
    simp only [List.mem_cons, List.not_mem_nil, or_false] at hi
    apply lg_int
    rcases hi with rfl | rfl | rfl <;> omega) (by simp))
  have S3 : (3 : Nat) ≤ sizeLine := by decide
  have dd := dist x w v
  refine ⟨[some (.v scr), some (.o b4.d), some (.v (.int i)), some (.v (.int x)), some (.v (.int w)), some (.v (.int v)), some (.v (.list [.int ((x + w) % 97), .int ((x - w) % 97), .int (x * w % 97)])), none], ?_, ⟨b4, _, _, _, _, _, k4, rfl, by simp, by simp, by simp, by simp, by simp⟩⟩
  simp [b9, runG, q1, q2, q3, q4, n2, n3, n4, n5, n6, m1, p1, p2, p3, s1, s2, s3, l1, a1, S3, dd]
def I2 (scr : PyData) (k : Nat) (e : En) : Prop := ∃ (s : List PyData) (t2 t3 t4 t5 t6 t7 : Option Sl), e = [some (.v scr), some (.o s), t2, t3, t4, t5, t6, t7] ∧ NB t2 ∧ NB t3 ∧ NB t4 ∧ NB t5 ∧ NB t6 ∧ NB t7
theorem turn2 (scr : PyData) (i : Nat) (hi : i < 96) (e : En) (h : I2 scr i e) : ∃ e', (match b9 with
    | .cons _ (.cons _ (.cons (.for g _ b) _)) => (runG g (.int (1 + i)) e).bind fun e1 => runB (runP cons FU defs 11) cons FU b e1
    | _ => none) = some (.nx e') ∧ I2 scr (i + 1) e' := by
  obtain ⟨s, t2, t3, t4, t5, t6, t7, rfl, n2, n3, n4, n5, n6, n7⟩ := h
  obtain ⟨r, q, r0, r1, r2⟩ := inv_at i hi
  have m1 : binD .Mult (.int (1 + i)) (.int r) = some (.v (.int ((1 + i) * r))) := mulB (by omega) (by omega)
  have a1 := int_at 10 r
  refine ⟨[some (.v scr), some (.o s), t2, some (.v (.int (1 + i))), t4, t5, t6, some (.v (.int r))], ?_, ⟨s, _, _, _, _, _, _, rfl, n2, by simp, n4, n5, n6, by simp⟩⟩
  simp [b9, runG, q, n2, n3, n4, n5, n6, n7, m1, a1, r0, r1, r2]
def bo1 : IB := match b9 with
  | .cons _ (.cons (.for _ _ b) _) => b
  | _ => .nil
def bo2 : IB := match b9 with
  | .cons _ (.cons _ (.cons (.for _ _ b) _)) => b
  | _ => .nil
theorem b9_eq : b9 = .cons (.set 1 (.call 4 (.cons (.x 0) .nil))) (.cons (.for (.n 2) (.r1 (.k (.int 20))) bo1) (.cons (.for (.n 3) (.r2 (.k (.int 1)) (.k (.int 97))) bo2) (.cons (.ret (.k (.bool true))) .nil))) := rfl
theorem law_run : ∀ ns : List Int, ns.length ≤ 63 → ∃ ds, runP cons FU defs 12 9 [.v (.list (ns.map .int))] = some (.v (.bool true), ds) := by
  intro ns hn
  have g1 : runP cons FU defs 11 4 [.v (.list (ns.map .int))] = some (.o (bag0 ns).d, []) := by
    rw [run_at 10 4 _ d4 rfl]
    exact bag_run ns hn
  obtain ⟨e1, f1, b, t2, t3, t4, t5, t6, _, rfl, n2, n3, n4, n5, n6⟩ := forD_rng (body := fun d en => (en.put 2 (.v d)).bind fun e1 => runB (runP cons FU defs 11) cons FU bo1 e1) (I1 (.list (ns.map .int))) 0 20 [some (.v (.list (ns.map .int))), some (.o (bag0 ns).d), none, none, none, none, none, none]
    ⟨bag0 ns, none, none, none, none, none, bag0_ok ns hn, rfl, by simp, by simp, by simp, by simp, by simp⟩ (fun i hi e he => turn1 _ i hi e he)
  obtain ⟨e2, f2, s, u2, u3, u4, u5, u6, u7, rfl, _⟩ := forD_rng (body := fun d en => (en.put 3 (.v d)).bind fun e1 => runB (runP cons FU defs 11) cons FU bo2 e1) (I2 (.list (ns.map .int))) 1 96 _ ⟨b.d, t2, t3, t4, t5, t6, none, rfl, n2, n3, n4, n5, n6, by simp⟩ (fun i hi e he => turn2 _ i hi e he)
  refine ⟨[], ?_⟩
  rw [run_at 11 9 _ d9 rfl, runFn_eq rfl]
  show (runB _ cons FU b9 [some (.v (.list (ns.map .int))), none, none, none, none, none, none, none]).bind _ = _
  rw [b9_eq]
  simp [runS_for, g1, f1, f2, outA]
section
theorem defAt {K : PySem.W.Frag} {mg : Str → Option Value} {f : Fn} {st : Stmt} {a : Addr} {oc : Value} {od an : Option Addr} {osl : Array (Option Value)} {kV doc pm cdv ct : Value} (hm : mg f.name = some (.ref a))
    (l : K.lookup a = some ⟨oc, od, .func (PySem.W.fnOf f.name f.name (defArgs st) (defBody st) (defScope st) .none kV doc pm an cdv ct), osl⟩) (c : PySem.W.codeIn K cdv f.name = true) (k : PySem.W.keepIn K (.ref a) = true)
    (hb : ∀ us : List Value, us.length = f.ps.length → bindArgs (PySem.W.fnOf f.name f.name (defArgs st) (defBody st) (defScope st) .none kV doc pm an cdv ct) ⟨us, []⟩ = pure (f.ps.zip us)) (hc : chkD fns cons f st = true) : DefAt K mg fns cons f :=
  ⟨a, _, st, hm, fun_mk l c k, .all hb, hc⟩
theorem all_mk {l : PySem.W.OpenLaw} {w : World} {K : PySem.W.Frag} {h : Heap} {mg : Str → Option Value} {fa : Addr} {FU : Nat} (X : K.In h) (G : h.Ns mainGlobals mg) (hfa : mg "law" = some (.ref fa))
    {f0 : Addr} {od0 an0 : Option Addr} {sl0 : Array (Option Value)} {oc0 kV0 dc0 pm0 cd0 ct0 : Value} {f1 : Addr} {od1 an1 : Option Addr} {sl1 : Array (Option Value)} {oc1 kV1 dc1 pm1 cd1 ct1 : Value} {f2 : Addr} {od2 an2 : Option Addr} {sl2 : Array (Option Value)} {oc2 kV2 dc2 pm2 cd2 ct2 : Value} {f3 : Addr} {od3 an3 : Option Addr} {sl3 : Array (Option Value)} {oc3 kV3 dc3 pm3 cd3 ct3 : Value} {f4 : Addr} {od4 an4 : Option Addr} {sl4 : Array (Option Value)} {oc4 kV4 dc4 pm4 cd4 ct4 : Value} {f5 : Addr} {od5 an5 : Option Addr} {sl5 : Array (Option Value)} {oc5 kV5 dc5 pm5 cd5 ct5 : Value} {f6 : Addr} {od6 an6 : Option Addr} {sl6 : Array (Option Value)} {oc6 kV6 dc6 pm6 cd6 ct6 : Value} {f7 : Addr} {od7 an7 : Option Addr} {sl7 : Array (Option Value)} {oc7 kV7 dc7 pm7 cd7 ct7 : Value} {f8 : Addr} {od8 an8 : Option Addr} {sl8 : Array (Option Value)} {oc8 kV8 dc8 pm8 cd8 ct8 : Value} {f9 : Addr} {od9 an9 : Option Addr} {sl9 : Array (Option Value)} {oc9 kV9 dc9 pm9 cd9 ct9 : Value} {t0 : Tok}
    (a0 : PySem.W.nsIn K mainGlobals "field_sum" = some (some (.ref f0)))
    (l0 : K.lookup f0 = some ⟨oc0, od0, .func (PySem.W.fnOf "field_sum" "field_sum" (defArgs (topS 2)) (defBody (topS 2)) (defScope (topS 2)) .none kV0 dc0 pm0 an0 cd0 ct0), sl0⟩)
    (c0 : PySem.W.codeIn K cd0 "field_sum" = true)
    (k0 : PySem.W.keepIn K (.ref f0) = true)
    (a1 : PySem.W.nsIn K mainGlobals "field_less" = some (some (.ref f1)))
    (l1 : K.lookup f1 = some ⟨oc1, od1, .func (PySem.W.fnOf "field_less" "field_less" (defArgs (topS 3)) (defBody (topS 3)) (defScope (topS 3)) .none kV1 dc1 pm1 an1 cd1 ct1), sl1⟩)
    (c1 : PySem.W.codeIn K cd1 "field_less" = true)
    (k1 : PySem.W.keepIn K (.ref f1) = true)
    (a2 : PySem.W.nsIn K mainGlobals "field_product" = some (some (.ref f2)))
    (l2 : K.lookup f2 = some ⟨oc2, od2, .func (PySem.W.fnOf "field_product" "field_product" (defArgs (topS 4)) (defBody (topS 4)) (defScope (topS 4)) .none kV2 dc2 pm2 an2 cd2 ct2), sl2⟩)
    (c2 : PySem.W.codeIn K cd2 "field_product" = true)
    (k2 : PySem.W.keepIn K (.ref f2) = true)
    (a3 : PySem.W.nsIn K mainGlobals "field_inverse" = some (some (.ref f3)))
    (l3 : K.lookup f3 = some ⟨oc3, od3, .func (PySem.W.fnOf "field_inverse" "field_inverse" (defArgs (topS 5)) (defBody (topS 5)) (defScope (topS 5)) .none kV3 dc3 pm3 an3 cd3 ct3), sl3⟩)
    (c3 : PySem.W.codeIn K cd3 "field_inverse" = true)
    (k3 : PySem.W.keepIn K (.ref f3) = true)
    (a4 : PySem.W.nsIn K mainGlobals "_law_bag" = some (some (.ref f4)))
    (l4 : K.lookup f4 = some ⟨oc4, od4, .func (PySem.W.fnOf "_law_bag" "_law_bag" (defArgs (topS 7)) (defBody (topS 7)) (defScope (topS 7)) .none kV4 dc4 pm4 an4 cd4 ct4), sl4⟩)
    (c4 : PySem.W.codeIn K cd4 "_law_bag" = true)
    (k4 : PySem.W.keepIn K (.ref f4) = true)
    (a5 : PySem.W.nsIn K mainGlobals "_law_take" = some (some (.ref f5)))
    (l5 : K.lookup f5 = some ⟨oc5, od5, .func (PySem.W.fnOf "_law_take" "_law_take" (defArgs (topS 8)) (defBody (topS 8)) (defScope (topS 8)) .none kV5 dc5 pm5 an5 cd5 ct5), sl5⟩)
    (c5 : PySem.W.codeIn K cd5 "_law_take" = true)
    (k5 : PySem.W.keepIn K (.ref f5) = true)
    (a6 : PySem.W.nsIn K mainGlobals "_law_some" = some (some (.ref f6)))
    (l6 : K.lookup f6 = some ⟨oc6, od6, .func (PySem.W.fnOf "_law_some" "_law_some" (defArgs (topS 9)) (defBody (topS 9)) (defScope (topS 9)) .none kV6 dc6 pm6 an6 cd6 ct6), sl6⟩)
    (c6 : PySem.W.codeIn K cd6 "_law_some" = true)
    (k6 : PySem.W.keepIn K (.ref f6) = true)
    (a7 : PySem.W.nsIn K mainGlobals "_law_alike" = some (some (.ref f7)))
    (l7 : K.lookup f7 = some ⟨oc7, od7, .func (PySem.W.fnOf "_law_alike" "_law_alike" (defArgs (topS 10)) (defBody (topS 10)) (defScope (topS 10)) .none kV7 dc7 pm7 an7 cd7 ct7), sl7⟩)
    (c7 : PySem.W.codeIn K cd7 "_law_alike" = true)
    (k7 : PySem.W.keepIn K (.ref f7) = true)
    (a8 : PySem.W.nsIn K mainGlobals "_law_is_int" = some (some (.ref f8)))
    (l8 : K.lookup f8 = some ⟨oc8, od8, .func (PySem.W.fnOf "_law_is_int" "_law_is_int" (defArgs (topS 11)) (defBody (topS 11)) (defScope (topS 11)) .none kV8 dc8 pm8 an8 cd8 ct8), sl8⟩)
    (c8 : PySem.W.codeIn K cd8 "_law_is_int" = true)
    (k8 : PySem.W.keepIn K (.ref f8) = true)
    (a9 : PySem.W.nsIn K mainGlobals "law" = some (some (.ref f9)))
    (l9 : K.lookup f9 = some ⟨oc9, od9, .func (PySem.W.fnOf "law" "law" (defArgs (topS 12)) (defBody (topS 12)) (defScope (topS 12)) .none kV9 dc9 pm9 an9 cd9 ct9), sl9⟩)
    (c9 : PySem.W.codeIn K cd9 "law" = true)
    (k9 : PySem.W.keepIn K (.ref f9) = true)
    (z0 : PySem.W.nsIn K mainGlobals "len" = some none)
    (z1 : PySem.W.nsIn K mainGlobals "abs" = some none)
    (z2 : PySem.W.nsIn K mainGlobals "int" = some none)
    (z3 : PySem.W.nsIn K mainGlobals "max" = some none)
    (z4 : PySem.W.nsIn K mainGlobals "min" = some none)
    (z5 : PySem.W.nsIn K mainGlobals "sum" = some none)
    (z6 : PySem.W.nsIn K mainGlobals "all" = some none)
    (z7 : PySem.W.nsIn K mainGlobals "any" = some none)
    (z8 : PySem.W.nsIn K mainGlobals "repr" = some none)
    (z9 : PySem.W.nsIn K mainGlobals "tuple" = some none)
    (z10 : PySem.W.nsIn K mainGlobals "list" = some none)
    (z11 : PySem.W.nsIn K mainGlobals "sorted" = some none)
    (z12 : PySem.W.nsIn K mainGlobals "str" = some none)
    (z13 : PySem.W.nsIn K mainGlobals "range" = some none)
    (z14 : PySem.W.nsIn K mainGlobals "zip" = some none)
    (z15 : PySem.W.nsIn K mainGlobals "enumerate" = some none)
    (z16 : PySem.W.nsIn K mainGlobals "isinstance" = some none)
    (z17 : PySem.W.nsIn K mainGlobals "bool" = some none)
    (z18 : PySem.W.nsIn K mainGlobals "dict" = some none)
    (cst0 : PySem.W.nsIn K mainGlobals "PRIME" = some (some (.int 97 t0)))
    : ∃ fd : FuncData, (∀ (s : Shared) (v : Value), BindsTo s fd ⟨[v], []⟩ [("_law_script", v)]) ∧ ∀ base : Heap, K.In base → base.Ns mainGlobals mg → FnG l.prog w K mg base 12 fa fd ["_law_script"] (runP cons FU defs 12 9) := by
  have e := hfa.symm.trans (PySem.W.mg_of X G a9)
  cases e
  have hb : ∀ x ∈ blts, mg x = none := by
    intro x hx
    simp only [blts, List.mem_cons, List.not_mem_nil, or_false] at hx
    rcases hx with rfl | rfl | rfl | rfl | rfl | rfl | rfl | rfl | rfl | rfl | rfl | rfl | rfl | rfl | rfl | rfl | rfl | rfl | rfl
    · exact PySem.W.mg_none_of X G z0
    · exact PySem.W.mg_none_of X G z1
    · exact PySem.W.mg_none_of X G z2
    · exact PySem.W.mg_none_of X G z3
    · exact PySem.W.mg_none_of X G z4
    · exact PySem.W.mg_none_of X G z5
    · exact PySem.W.mg_none_of X G z6
    · exact PySem.W.mg_none_of X G z7
    · exact PySem.W.mg_none_of X G z8
    · exact PySem.W.mg_none_of X G z9
    · exact PySem.W.mg_none_of X G z10
    · exact PySem.W.mg_none_of X G z11
    · exact PySem.W.mg_none_of X G z12
    · exact PySem.W.mg_none_of X G z13
    · exact PySem.W.mg_none_of X G z14
    · exact PySem.W.mg_none_of X G z15
    · exact PySem.W.mg_none_of X G z16
    · exact PySem.W.mg_none_of X G z17
    · exact PySem.W.mg_none_of X G z18
  have hd : ∀ f ∈ defs, DefAt K mg fns cons f := by
    intro f hf
    simp only [defs, List.mem_cons, List.not_mem_nil, or_false] at hf
    rcases hf with rfl | rfl | rfl | rfl | rfl | rfl | rfl | rfl | rfl | rfl
    · exact defAt (f := d0) (PySem.W.mg_of X G a0) l0 c0 k0 (fun us hl => match us, hl with | [_, _], _ => rfl) chk0
    · exact defAt (f := d1) (PySem.W.mg_of X G a1) l1 c1 k1 (fun us hl => match us, hl with | [_, _], _ => rfl) chk1
    · exact defAt (f := d2) (PySem.W.mg_of X G a2) l2 c2 k2 (fun us hl => match us, hl with | [_, _], _ => rfl) chk2
    · exact defAt (f := d3) (PySem.W.mg_of X G a3) l3 c3 k3 (fun us hl => match us, hl with | [_], _ => rfl) chk3
    · exact defAt (f := d4) (PySem.W.mg_of X G a4) l4 c4 k4 (fun us hl => match us, hl with | [_], _ => rfl) chk4
    · exact defAt (f := d5) (PySem.W.mg_of X G a5) l5 c5 k5 (fun us hl => match us, hl with | [_, _], _ => rfl) chk5
    · exact defAt (f := d6) (PySem.W.mg_of X G a6) l6 c6 k6 (fun us hl => match us, hl with | [_, _], _ => rfl) chk6
    · exact defAt (f := d7) (PySem.W.mg_of X G a7) l7 c7 k7 (fun us hl => match us, hl with | [_, _], _ => rfl) chk7
    · exact defAt (f := d8) (PySem.W.mg_of X G a8) l8 c8 k8 (fun us hl => match us, hl with | [_], _ => rfl) chk8
    · exact defAt (f := d9) (PySem.W.mg_of X G a9) l9 c9 k9 (fun us hl => match us, hl with | [_], _ => rfl) chk9
  have hc : ∀ x d, cons.lookup x = some d → ∃ u v, mg x = some u ∧ RelV v u ∧ ∀ F, Dq K F v d := by
    intro x d hx
    simp only [cons, List.lookup_cons, List.lookup_nil] at hx
    split at hx
    · rename_i hq
      cases hx
      have hq := eq_of_beq hq
      subst hq
      exact ⟨_, .int (97), PySem.W.mg_of X G cst0, ⟨_, rfl⟩, fun F => .int _⟩
    cases hx
  have FF := fun_mk (st := topS 12) l9 c9 k9
  exact ⟨_, fun s v => .of_eq rfl, fun base _ _ => fn_G (f := d9) FF chk9 hb hc (prog_ok rfl hd hb hc 11)⟩
end
end Lk51
open PySem PySem.W PyProof.Rows
set_option maxRecDepth 100000 in
set_option maxHeartbeats 0 in
theorem PySem.Challenge.cw_flutterheld_k51_the_field_of_97_holds : PySem.Challenge.rw_flutterheld_k51_the_field_of_97.Holds := by
  w_on; o_law; k_head; (case hw => w_witness2)
  k_fill
  refine PF.walk_P (l := PySem.Challenge.rw_flutterheld_k51_the_field_of_97) (m := 63) (n := 12) (x := "_law_script") (g := PF.runP Lk51.cons Lk51.FU Lk51.defs 12 9) rfl (by decide) rfl ⟨rfl, by decide, by decide⟩ (fun w h Y => PySem.W.kIn_of Y) ?F Lk51.law_run
  case F =>
    intro w mg fa h KX G hmg
    refine' Lk51.all_mk KX G hmg ?a0 ?l0 ?c0 ?k0 ?a1 ?l1 ?c1 ?k1 ?a2 ?l2 ?c2 ?k2 ?a3 ?l3 ?c3 ?k3 ?a4 ?l4 ?c4 ?k4 ?a5 ?l5 ?c5 ?k5 ?a6 ?l6 ?c6 ?k6 ?a7 ?l7 ?c7 ?k7 ?a8 ?l8 ?c8 ?k8 ?a9 ?l9 ?c9 ?k9 ?z0 ?z1 ?z2 ?z3 ?z4 ?z5 ?z6 ?z7 ?z8 ?z9 ?z10 ?z11 ?z12 ?z13 ?z14 ?z15 ?z16 ?z17 ?z18 ?cst0
    (case a0 => k_is); (case l0 => k_is); (case c0 => k_is); (case k0 => k_is); (case a1 => k_is); (case l1 => k_is)
    (case c1 => k_is); (case k1 => k_is); (case a2 => k_is); (case l2 => k_is); (case c2 => k_is); (case k2 => k_is)
    (case a3 => k_is); (case l3 => k_is); (case c3 => k_is); (case k3 => k_is); (case a4 => k_is); (case l4 => k_is)
    (case c4 => k_is); (case k4 => k_is); (case a5 => k_is); (case l5 => k_is); (case c5 => k_is); (case k5 => k_is)
    (case a6 => k_is); (case l6 => k_is); (case c6 => k_is); (case k6 => k_is); (case a7 => k_is); (case l7 => k_is)
    (case c7 => k_is); (case k7 => k_is); (case a8 => k_is); (case l8 => k_is); (case c8 => k_is); (case k8 => k_is)
    (case a9 => k_is); (case l9 => k_is); (case c9 => k_is); (case k9 => k_is); (case z0 => k_is); (case z1 => k_is)
    (case z2 => k_is); (case z3 => k_is); (case z4 => k_is); (case z5 => k_is); (case z6 => k_is); (case z7 => k_is)
    (case z8 => k_is); (case z9 => k_is); (case z10 => k_is); (case z11 => k_is); (case z12 => k_is); (case z13 => k_is)
    (case z14 => k_is); (case z15 => k_is); (case z16 => k_is); (case z17 => k_is); (case z18 => k_is); (case cst0 => k_is)
