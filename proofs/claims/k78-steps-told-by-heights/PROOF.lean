import PyProof.Rows.All
import Wide.All
import OpenK.AllK
import Wide.FinOn
import HandS.ForMost
import HandS.Walk
import HandS.Zip
import HandS.Deep
import HandS.Style
import HandS.Wide
import HandS.Gcd
import HandS.TupAny
import HandS.TupMul
import HandS.IsInst
import HandS.Conv
import HandS.More
import HandS.ForExc
import KE.SortData
import KE.DataMinMax
import PyProof.Rows.RowBridgeK
import HandS.SetFor
import HandS.Strs
import HandS.Ends
import KE.DatumOrd
import PySem.Challenge.RW_observatory_k78_whole_steps_told_by_heig
set_option Elab.async false
set_option linter.all false
set_option maxRecDepth 100000
/-! Ob: a small language of pure values, its evaluator, and the check that a text of it is the program's. -/
namespace Ob
open PySem PySem.Spec PyProof.Rows L2

/-- a value: data, an object that may be written (told by its number), a def -/
inductive D where
  | d (x : PyData) | own (n : Nat) | fn (f : Nat) | its (xs : List D) | scr (xs : List PyData)
/-- what an object that may be written holds; z: locked while it is walked -/
inductive MO where
  | lst (xs : List PyData)
  | dK (kvs : List (Key × PyData)) | dT (kvs : List (List Key × PyData))
  | zL (xs : List PyData) | zK (kvs : List (Key × PyData)) | zT (kvs : List (List Key × PyData))
abbrev Ms := List MO
abbrev Rho := List (Option D)
structure Xc where
  cls : Nat
  arg : Option PyData
  M : Ms
abbrev Rs (α : Type) := Option (Except Xc (α × Ms))
def Rs.ok {α : Type} (a : α) (M : Ms) : Rs α := some (.ok (a, M))
def Rs.bind {α β : Type} (r : Rs α) (k : α → Ms → Rs β) : Rs β :=
  match r with
  | none => none
  | some (.error x) => some (.error x)
  | some (.ok (a, M)) => k a M
@[simp] theorem Rs.bind_ok {α β : Type} (a : α) (M : Ms) (k : α → Ms → Rs β) : (Rs.ok a M).bind k = k a M := Eq.trans rfl rfl
/-- no exception leaves it -/
def Rs.quiet {α : Type} (r : Rs α) : Rs α := match r with
  | some (.error _) => none
  | r => r
@[simp] theorem Rs.quiet_ok {α : Type} (a : α) (M : Ms) : (Rs.ok a M).quiet = Rs.ok a M := Eq.trans rfl rfl
/-- of a thing that may be stuck -/
def Rs.of {α : Type} (o : Option α) (M : Ms) : Rs α := match o with
  | some a => Rs.ok a M
  | none => none
@[simp] theorem Rs.of_some {α : Type} (a : α) (M : Ms) : Rs.of (some a) M = Rs.ok a M := Eq.trans rfl rfl

/-! ### the texts -/
mutual
inductive Tg where
  | nm (i : Nat) | tp (a : Tgs)
inductive Tgs where
  | nil | cons (a : Tg) (b : Tgs)
end
/-- built-in functions -/
inductive Bt where
  | len | abs | min2 | max2 | min | max | sum | sorted | tuple | list | all | any | int | str | repr | gcd
  deriving DecidableEq
inductive Ty where
  | int | bool | tuple | str
  deriving DecidableEq
mutual
inductive E where
  | var (i : Nat) | int (i : Int) | bl (b : Bool) | non | str (s : Str)
  | gi (x : Str) (i : Int)
  | bin (op : Operator) (a b : E)
  | neg (a : E)
  | cmp (op : CmpOp) (a b : E)
  | cmp2 (op op' : CmpOp) (a b c : E)
  | conj (a b : E) | disj (a b : E)
  | not (a : E)
  | ite (t a b : E)
  | tup (es : Es) | lst (es : Es)
  | ix (a b : E)
  | slc (a lo hi : E)
  | rev (a : E)
  | nop
  | call (f : Nat) (es : Es)
  | blt (b : Bt) (es : Es)
  | isi (a : E) (t : Ty)
  | get (i : Nat) (k : E) | get2 (i : Nat) (k v : E)
  | lc (elt : E) (tg : Tg) (it cond : E) (vs : List Nat)
  | lcO (elt : E) (tg : Tg) (i : Nat) (cond : E) (vs : List Nat)
  | lc2 (elt : E) (tg : Tg) (it cond : E) (vs : List Nat) (tg1 : Tg) (it1 cond1 : E) (vs1 : List Nat)
  | dct (ks vs : Es)
  | lrg (t : Bool) (es : Es)
  | sst (e : E)
  | lix (i : Nat) (k : E)
  | rng (es : Es) | zip (es : Es) | enm (e : E)
inductive Es where
  | nil | cons (a : E) (b : Es)
end

/-! ### the values' operations -/
def seqAt {α : Type} (xs : List α) (i : Int) : Option α := atI xs i
/-- what a value shows -/
def view (M : Ms) : D → Option PyData
  | .d x => some x
  | .own n => match M[n]? with
    | some (.lst xs) => some (.list xs)
    | some (.zL xs) => some (.list xs)
    | _ => none
  | _ => none
def line (n : Nat) : Bool := decide (n ≤ 16777216)
def mulOk (i j : Int) : Bool := decide ((-(2 ^ 64) < i ∧ i < 2 ^ 64) ∨ (-(2 ^ 64) < j ∧ j < 2 ^ 64) ∨ i.natAbs.log2 + j.natAbs.log2 < 1000000)
def opr (op : Operator) (x y : PyData) : Option PyData :=
  match op, x, y with
  | .Add, .int i, .int j => some (.int (i + j))
  | .Sub, .int i, .int j => some (.int (i - j))
  | .Mult, .int i, .int j => if mulOk i j = true then some (.int (i * j)) else none
  | .FloorDiv, .int i, .int j => if j ≠ 0 ∧ j.natAbs.log2 < 9000 then some (.int (if 0 < j then i / j else i.fdiv j)) else none
  | .Mod, .int i, .int j => if j ≠ 0 then some (.int (if 0 < j then i % j else i.fmod j)) else none
  | .Pow, .int i, .int j => if 0 ≤ j ∧ j ≤ 1000000 ∧ i.natAbs < 2 ^ 64 then some (.int (i ^ j.toNat)) else none
  | .Add, .tuple xs, .tuple ys => if line (xs.length + ys.length) = true then some (.tuple (xs ++ ys)) else none
  | .Add, .list xs, .list ys => if line (xs.length + ys.length) = true then some (.list (xs ++ ys)) else none
  | .Add, .str x, .str y => if line (x.length + y.length) = true then some (.str (x ++ y)) else none
  | _, _, _ => none
def shp (x : PyData) : Bool := SeqAt.shaped x
def eqO (x y : PyData) : Option Bool := match x, y with
  | .str a, .str b => some (decide (a = b))
  | x, y => if (shp x && shp y) = true then some (PyData.eqv x y) else none
def cmpr (op : CmpOp) (x y : PyData) : Option Bool :=
  match op, x, y with
  | .Lt, .int i, .int j => some (decide (i < j))
  | .LtE, .int i, .int j => some (decide (i ≤ j))
  | .Gt, .int i, .int j => some (decide (j < i))
  | .GtE, .int i, .int j => some (decide (j ≤ i))
  | .Eq, x, y => eqO x y
  | .NotEq, x, y => (eqO x y).map not
  | _, _, _ => none
def cutI (xs : List PyData) (lo hi : Option Int) : List PyData := (xs.drop (HT.sIx xs.length 0 lo)).take (HT.sIx xs.length xs.length hi - HT.sIx xs.length 0 lo)
def idx (x i : PyData) : Option PyData :=
  match x, i with
  | .tuple xs, .int i => atI xs i
  | .list xs, .int i => atI xs i
  | _, _ => none
def boolsOf : List PyData → Option (List Bool)
  | [] => some []
  | .bool b :: r => (boolsOf r).map (b :: ·)
  | _ => none
def intsOf : List PyData → Option (List Int)
  | [] => some []
  | .int b :: r => (intsOf r).map (b :: ·)
  | _ => none
/-- the members of a list, each once, rising -/
def insI (x : Int) : List Int → List Int
  | [] => [x]
  | y :: l => if x < y then x :: y :: l else if x = y then y :: l else y :: insI x l
def once (l : List Int) : List Int := l.foldr insI []
def notNone : PyData → Bool
  | .none => false
  | _ => true
/-- all can be compared with one another -/
def likes (xs : List PyData) : Bool := xs.all (fun x => xs.all fun y => PySem.W.alike x y) && xs.all notNone && decide (PyData.depthAll xs ≤ 60)
/-- what repr and sorted ask of data -/
def reprB (x : PyData) : Bool := x.showable && !x.hasDict && decide (x.shown.length ≤ 16777216) && decide (x.depth ≤ 60)
def isT1 : PyData → Bool
  | .tuple (_ :: _) => true
  | _ => false
def isT : PyData → Bool
  | .tuple _ => true
  | _ => false
def sortB (xs : List PyData) : Bool := likes xs && (xs.all isT1 || xs.all fun x => !isT x) && decide (xs.length ≤ 16777216)
def bltn (b : Bt) (xs : List PyData) : Option PyData :=
  match b, xs with
  | .len, [.tuple xs] => some (.int xs.length)
  | .len, [.list xs] => some (.int xs.length)
  | .abs, [.int i] => some (.int (if i < 0 then -i else i))
  | .min2, [.int i, .int j] => some (.int (if j < i then j else i))
  | .max2, [.int i, .int j] => some (.int (if j > i then j else i))
  | .tuple, [.list xs] => some (.tuple xs)
  | .tuple, [.tuple xs] => some (.tuple xs)
  | .list, [.list xs] => some (.list xs)
  | .list, [.tuple xs] => some (.list xs)
  | .all, [.list xs] => (boolsOf xs).map fun bs => .bool (bs.all id)
  | .any, [.list xs] => (boolsOf xs).map fun bs => .bool (bs.any id)
  | .sum, [.list xs] => (intsOf xs).map fun ns => .int ns.sum
  | .int, [.int i] => some (.int i)
  | .int, [.bool k] => some (.int (if k then 1 else 0))
  | .str, [.int i] => if i.natAbs.log2 < 1920 then some (.str (toString i)) else none
  | .min, [.list (x :: xs)] => if likes (x :: xs) = true then some (PySem.W.minD x xs) else none
  | .min, [.tuple (x :: xs)] => if likes (x :: xs) = true then some (PySem.W.minD x xs) else none
  | .max, [.list (x :: xs)] => if likes (x :: xs) = true then some (PySem.W.maxD x xs) else none
  | .max, [.tuple (x :: xs)] => if likes (x :: xs) = true then some (PySem.W.maxD x xs) else none
  | .sorted, [.list xs] => if sortB xs = true then some (.list (xs.mergeSort (PySem.W.dataLe false id))) else none
  | .repr, [x] => if reprB x = true then some (.str x.shown) else none
  | .gcd, [.int i, .int j] => some (.int (Int.gcd i j : Nat))
  | _, _ => none
def viewAll (M : Ms) : List D → Option (List PyData)
  | [] => some []
  | x :: r => match view M x, viewAll M r with
    | some a, some b => some (a :: b)
    | _, _ => none
def toB : D → Option Bool
  | .d (.bool b) => some b
  | _ => none
/-- isinstance -/
def isTy (t : Ty) (x : PyData) : Bool := match t, x with
  | .int, .int _ => true
  | .int, .bool _ => true
  | .bool, .bool _ => true
  | .tuple, .tuple _ => true
  | .str, .str _ => true
  | _, _ => false
/-- x is y, of which y is a constant -/
def isC (x y : PyData) : Option Bool := match y, x with
  | .none, .none => some true
  | .none, _ => some false
  | .bool b, .bool a => some (a == b)
  | .bool _, _ => some false
  | _, _ => none
/-! ### dicts -/
def keyOf : PyData → Option Key
  | .int i => some (.inl i)
  | .str x => some (.inr x)
  | _ => none
def keysOf : List PyData → Option (List Key)
  | [] => some []
  | x :: r => match keyOf x, keysOf r with
    | some a, some b => some (a :: b)
    | _, _ => none
def keyT : PyData → Option (List Key)
  | .tuple xs => keysOf xs
  | _ => none
def keyD : Key → PyData
  | .inl i => .int i
  | .inr x => .str x
def look {κ : Type} [DecidableEq κ] (kvs : List (κ × PyData)) (k : κ) : Option PyData := (kvs.find? fun kv => decide (kv.1 = k)).map (·.2)
def store {κ : Type} [DecidableEq κ] (kvs : List (κ × PyData)) (k : κ) (v : PyData) : List (κ × PyData) :=
  if (kvs.any fun kv => decide (kv.1 = k)) = true then kvs.map (fun kv => if kv.1 = k then (kv.1, v) else kv) else kvs ++ [(k, v)]
/-- what a dict has at a key: none where it is no dict, or no key -/
def dlook (M : Ms) (o : D) (k : PyData) : Option (Option PyData) := match o with
  | .own n => match M[n]? with
    | some (.dK kvs) => (keyOf k).map (look kvs)
    | some (.zK kvs) => (keyOf k).map (look kvs)
    | some (.dT kvs) => (keyT k).map (look kvs)
    | some (.zT kvs) => (keyT k).map (look kvs)
    | _ => none
  | _ => none
def isDct (M : Ms) (o : D) : Bool := match o with
  | .own n => match M[n]? with
    | some (.dK _) => true
    | some (.zK _) => true
    | some (.dT _) => true
    | some (.zT _) => true
    | _ => false
  | _ => false
/-! ### what is walked -/
def itemsOf : D → Option (List D)
  | .d (.tuple xs) => some (xs.map .d)
  | .d (.list xs) => some (xs.map .d)
  | .its xs => some xs
  | _ => none
def lockO (M : Ms) (n : Nat) : Option (List D × Ms) := match M[n]? with
  | some (.lst xs) => some (xs.map .d, M.set n (.zL xs))
  | some (.dK kvs) => if line kvs.length = true then some (kvs.map (fun kv => .d (keyD kv.1)), M.set n (.zK kvs)) else none
  | some (.dT kvs) => if line kvs.length = true then some (kvs.map (fun kv => .d (.tuple (kv.1.map keyD))), M.set n (.zT kvs)) else none
  | _ => none
def unlockO (M : Ms) (n : Nat) : Option Ms := match M[n]? with
  | some (.zL xs) => some (M.set n (.lst xs))
  | some (.zK kvs) => some (M.set n (.dK kvs))
  | some (.zT kvs) => some (M.set n (.dT kvs))
  | _ => none
def rangeD (a b c : Int) : Option (List D) :=
  if -(2 ^ 62) ≤ a ∧ a < 2 ^ 62 ∧ -(2 ^ 62) ≤ b ∧ b < 2 ^ 62 ∧ line (b - a).toNat = true ∧ line (a - b).toNat = true then
    if c = 1 then some ((List.range (b - a).toNat).map fun i => .d (.int (a + (i : Nat))))
    else if c = -1 then some ((List.range (a - b).toNat).map fun i => .d (.int (a - (i : Nat))))
    else none
  else none
def rangeOf : List D → Option (List D)
  | [.d (.int b)] => rangeD 0 b 1
  | [.d (.int a), .d (.int b)] => rangeD a b 1
  | [.d (.int a), .d (.int b), .d (.int c)] => rangeD a b c
  | _ => none
def isTup : PyData → Bool
  | .tuple _ => true
  | _ => false
def pairs : List PyData → List PyData → List D
  | x :: xs, y :: ys => .d (.tuple [x, y]) :: pairs xs ys
  | _, _ => []
def triples : List PyData → List PyData → List PyData → List D
  | x :: xs, y :: ys, z :: zs => .d (.tuple [x, y, z]) :: triples xs ys zs
  | _, _, _ => []
def nums (i : Nat) : List PyData → List D
  | [] => []
  | x :: xs => .d (.tuple [.int (i : Nat), x]) :: nums (i + 1) xs
def seqD (M : Ms) (x : D) : Option (List PyData) := match view M x with
  | some (.tuple xs) => some xs
  | some (.list xs) => some xs
  | _ => none
mutual
def bindTg : Tg → D → Rho → Option Rho
  | .nm i, x, ρ => some (ρ.set i (some x))
  | .tp ts, x, ρ => match x with
    | .d (.tuple xs) => bindTgs ts xs ρ
    | _ => none
def bindTgs : Tgs → List PyData → Rho → Option Rho
  | .nil, xs, ρ => match xs with
    | [] => some ρ
    | _ => none
  | .cons t ts, xs, ρ => match xs with
    | x :: r => match bindTg t (.d x) ρ with
      | some ρ1 => bindTgs ts r ρ1
      | none => none
    | _ => none
end
def wipeR (ρ : Rho) : List Nat → Rho
  | [] => ρ
  | v :: vs => (wipeR ρ vs).set v none
/-- an item, if there is one -/
def consO : Option PyData → List PyData → List PyData
  | some y, r => y :: r
  | none, r => r
def lcLoop (body : D → Ms → Rs (Option PyData)) : List D → Ms → Rs (List PyData)
  | [], M => Rs.ok [] M
  | x :: xs, M => (body x M).bind fun o M1 => (lcLoop body xs M1).bind fun r M2 => Rs.ok (consO o r) M2
/-- .. each turn gives several -/
def lcLoopL (body : D → Ms → Rs (List PyData)) : List D → Ms → Rs (List PyData)
  | [], M => Rs.ok [] M
  | x :: xs, M => (body x M).bind fun o M1 => (lcLoopL body xs M1).bind fun r M2 => Rs.ok (o ++ r) M2
/-! ### the evaluator -/
def callOp (b : Bt) (ds : List D) (M : Ms) : Option PyData := match b, ds with
  | .list, [.scr xs] => some (.list xs)
  | .sorted, [.own n] => match M[n]? with
    | some (.dK kvs) => if kvs.length < 64 then (intsOf (kvs.map fun kv => keyD kv.1)).map fun ks => .list ((ks.mergeSort fun a b => decide (a ≤ b)).map .int) else none
    | _ => none
  | .len, [.own n] => match M[n]? with
    | some (.lst xs) => some (.int xs.length)
    | some (.zL xs) => some (.int xs.length)
    | some (.dK kvs) => some (.int kvs.length)
    | _ => none
  | b, ds => match viewAll M ds with
    | some xs => bltn b xs
    | none => none
def datas : List D → Option (List PyData)
  | [] => some []
  | .d x :: r => (datas r).map (x :: ·)
  | _ => none
def isNop : E → Bool
  | .nop => true
  | _ => false
def intO (x : D) : Option (Option Int) := match x with
  | .d (.int i) => some (some i)
  | _ => none
/-- a part of a slice: not there, or an int -/
def partI (e : E) (x : D) : Option (Option Int) := if isNop e = true then some none else intO x
def slD (x : D) (l h : Option Int) (M : Ms) : Rs D := match view M x with
  | some (.tuple xs) => Rs.ok (.d (.tuple (cutI xs l h))) M
  | some (.list xs) => Rs.ok (.d (.list (cutI xs l h))) M
  | _ => none
/-- a comparison of two values -/
def cmpD (op : CmpOp) (x y : D) (M : Ms) : Rs D := match op with
  | .In => match y, x with
    | .own n, .d k => match dlook M (.own n) k with
      | some r => Rs.ok (.d (.bool r.isSome)) M
      | none => match view M (.own n) with
        | some (.list ys) => if (shp k && shp (.list ys)) = true then Rs.ok (.d (.bool (ys.any fun z => PyData.eqv z k))) M else none
        | _ => none
    | .d (.list ys), .d k => if (shp k && shp (.list ys)) = true then Rs.ok (.d (.bool (ys.any fun z => PyData.eqv z k))) M else none
    | .d (.tuple ys), .d k => if (shp k && shp (.tuple ys)) = true then Rs.ok (.d (.bool (ys.any fun z => PyData.eqv z k))) M else none
    | _, _ => none
  | .NotIn => match y, x with
    | .own n, .d k => match dlook M (.own n) k with
      | some r => Rs.ok (.d (.bool (!r.isSome))) M
      | none => match view M (.own n) with
        | some (.list ys) => if (shp k && shp (.list ys)) = true then Rs.ok (.d (.bool (!ys.any fun z => PyData.eqv z k))) M else none
        | _ => none
    | .d (.list ys), .d k => if (shp k && shp (.list ys)) = true then Rs.ok (.d (.bool (!ys.any fun z => PyData.eqv z k))) M else none
    | .d (.tuple ys), .d k => if (shp k && shp (.tuple ys)) = true then Rs.ok (.d (.bool (!ys.any fun z => PyData.eqv z k))) M else none
    | _, _ => none
  | .Is => match x, y with
    | .d x, .d y => Rs.of ((isC x y).map fun b => .d (.bool b)) M
    | _, _ => none
  | .IsNot => match x, y with
    | .d x, .d y => Rs.of ((isC x y).map fun b => .d (.bool (!b))) M
    | _, _ => none
  | op => match view M x, view M y with
    | some x, some y => Rs.of ((cmpr op x y).map fun b => .d (.bool b)) M
    | _, _ => none
def oprD (op : Operator) (x y : D) (M : Ms) : Rs D := match op, x, y with
  | .Mult, .d (.list xs), .d (.int k) => if -(2 ^ 63) ≤ k ∧ k < 2 ^ 63 ∧ line (xs.length * k.toNat) = true then Rs.ok (.d (.list (List.replicate k.toNat xs).flatten)) M else none
  | .Mult, .d (.tuple xs), .d (.int k) => if xs ≠ [] ∧ 2 ≤ k ∧ k ≤ 1000 ∧ xs.length ≤ 1000 then Rs.ok (.d (.tuple (List.replicate k.toNat xs).flatten)) M else none
  | op, x, y => match view M x, view M y with
    | some x, some y => Rs.of ((opr op x y).map .d) M
    | _, _ => none
section
variable (call : Nat → List D → Ms → Rs D)
mutual
def ev : E → Rho → Ms → Rs D
  | .var i, ρ, M => Rs.of (ρ.getD i none) M
  | .int i, _, M => Rs.ok (.d (.int i)) M
  | .bl b, _, M => Rs.ok (.d (.bool b)) M
  | .non, _, M => Rs.ok (.d .none) M
  | .str s, _, M => Rs.ok (.d (.str s)) M
  | .gi _ i, _, M => Rs.ok (.d (.int i)) M
  | .bin op a b, ρ, M => (ev a ρ M).bind fun x M1 => (ev b ρ M1).bind fun y M2 => oprD op x y M2
  | .neg a, ρ, M => (ev a ρ M).bind fun x M1 => match x with
    | .d (.int i) => Rs.ok (.d (.int (-i))) M1
    | _ => none
  | .cmp op a b, ρ, M => (ev a ρ M).bind fun x M1 => (ev b ρ M1).bind fun y M2 => cmpD op x y M2
  | .cmp2 op op' a b c, ρ, M => (ev a ρ M).bind fun x M1 => (ev b ρ M1).bind fun y M2 => (cmpD op x y M2).bind fun r M3 => match r with
    | .d (.bool true) => (ev c ρ M3).bind fun z M4 => cmpD op' y z M4
    | .d (.bool false) => Rs.ok (.d (.bool false)) M3
    | _ => none
  | .conj a b, ρ, M => (ev a ρ M).bind fun x M1 => match x with
    | .d (.bool true) => ev b ρ M1
    | .d (.bool false) => Rs.ok (.d (.bool false)) M1
    | _ => none
  | .disj a b, ρ, M => (ev a ρ M).bind fun x M1 => match x with
    | .d (.bool true) => Rs.ok (.d (.bool true)) M1
    | .d (.bool false) => ev b ρ M1
    | _ => none
  | .not a, ρ, M => (ev a ρ M).bind fun x M1 => match x with
    | .d (.bool b) => Rs.ok (.d (.bool (!b))) M1
    | _ => none
  | .ite t a b, ρ, M => (ev t ρ M).bind fun x M1 => match x with
    | .d (.bool true) => ev a ρ M1
    | .d (.bool false) => ev b ρ M1
    | _ => none
  | .tup es, ρ, M => (evs es ρ M).bind fun xs M1 => match datas xs with
    | some ys => if line ys.length = true then Rs.ok (.d (.tuple ys)) M1 else none
    | none => none
  | .lst es, ρ, M => (evs es ρ M).bind fun xs M1 => match datas xs with
    | some ys => if line ys.length = true then Rs.ok (.d (.list ys)) M1 else none
    | none => none
  | .ix a b, ρ, M => (ev a ρ M).bind fun x M1 => (ev b ρ M1).bind fun y M2 => match view M2 x, y with
    | some x, .d i => Rs.of ((idx x i).map .d) M2
    | none, .d i => match dlook M2 x i with
      | some (some v) => Rs.ok (.d v) M2
      | _ => none
    | _, _ => none
  | .slc a lo hi, ρ, M => (ev a ρ M).bind fun x M1 => (ev lo ρ M1).bind fun l M2 => match partI lo l with
    | some l => (ev hi ρ M2).bind fun h M3 => match partI hi h with
      | some h => slD x l h M3
      | none => none
    | none => none
  | .rev a, ρ, M => (ev a ρ M).bind fun x M1 => match view M1 x with
    | some (.list xs) => Rs.ok (.d (.list xs.reverse)) M1
    | some (.tuple xs) => Rs.ok (.d (.tuple xs.reverse)) M1
    | _ => none
  | .nop, _, M => Rs.ok (.d (.bool true)) M
  | .call f es, ρ, M => (evs es ρ M).bind fun xs M1 => call f xs M1
  | .blt b es, ρ, M => (evs es ρ M).bind fun xs M1 => Rs.of ((callOp b xs M1).map .d) M1
  | .isi a t, ρ, M => (ev a ρ M).bind fun x M1 => match x with
    | .d x => Rs.ok (.d (.bool (isTy t x))) M1
    | _ => none
  | .get i k, ρ, M => match ρ.getD i none with
    | some x => if isDct M x = true then (ev k ρ M).bind fun y M2 => match y with
        | .d y => match dlook M2 x y with
          | some r => Rs.ok (.d (r.getD .none)) M2
          | none => none
        | _ => none
      else none
    | none => none
  | .get2 i k v, ρ, M => match ρ.getD i none with
    | some x => if isDct M x = true then (ev k ρ M).bind fun y M2 => (ev v ρ M2).bind fun z M3 => match y, z with
        | .d y, .d z => match dlook M3 x y with
          | some r => Rs.ok (.d (r.getD z)) M3
          | none => none
        | _, _ => none
      else none
    | none => none
  | .lc elt tg it cond vs, ρ, M => (ev it ρ M).bind fun w M1 => match itemsOf w with
    | some xs => (lcLoop (fun x M2 => match bindTg tg x (wipeR ρ vs) with
        | none => none
        | some ρ' => ((ev cond ρ' M2).bind fun c M3 => match c with
          | .d (.bool true) => (ev elt ρ' M3).bind fun y M4 => match y with
            | .d v => Rs.ok (some v) M4
            | _ => none
          | .d (.bool false) => Rs.ok none M3
          | _ => none).quiet) xs M1).bind fun ys M6 => Rs.ok (.d (.list ys)) M6
    | none => none
  | .lcO elt tg i cond vs, ρ, M => match ρ.getD i none with
    | some (.own n) => match lockO M n with
      | some (xs, M1) => (lcLoop (fun x M2 => match bindTg tg x (wipeR ρ vs) with
        | none => none
        | some ρ' => ((ev cond ρ' M2).bind fun c M3 => match c with
          | .d (.bool true) => (ev elt ρ' M3).bind fun y M4 => match y with
            | .d v => Rs.ok (some v) M4
            | _ => none
          | .d (.bool false) => Rs.ok none M3
          | _ => none).quiet) xs M1).bind fun ys M6 => match unlockO M6 n with
            | some M7 => Rs.ok (.d (.list ys)) M7
            | none => none
      | none => none
    | _ => none
  | .lc2 elt tg it cond vs tg1 it1 cond1 vs1, ρ, M => (ev it ρ M).bind fun w M1 => match itemsOf w with
    | some xs => (lcLoopL (fun x M2 => match bindTg tg x (wipeR ρ vs) with
        | none => none
        | some ρ' => ((ev cond ρ' M2).bind fun c M3 => match c with
          | .d (.bool true) => (ev it1 ρ' M3).bind fun w1 M4 => match itemsOf w1 with
            | some xs1 => lcLoop (fun x M2 => match bindTg tg1 x (wipeR ρ' vs1) with
              | none => none
              | some ρ' => ((ev cond1 ρ' M2).bind fun c M3 => match c with
                | .d (.bool true) => (ev elt ρ' M3).bind fun y M4 => match y with
                  | .d v => Rs.ok (some v) M4
                  | _ => none
                | .d (.bool false) => Rs.ok none M3
                | _ => none).quiet) xs1 M4
            | none => none
          | .d (.bool false) => Rs.ok [] M3
          | _ => none).quiet) xs M1).bind fun ys M6 => if line ys.length = true then Rs.ok (.d (.list ys)) M6 else none
    | none => none
  | .dct ks vs, ρ, M => (evs ks ρ M).bind fun xs M1 => (evs vs ρ M1).bind fun ys M2 => match datas xs, datas ys with
    | some xs, some ys => Rs.ok (.d (.dict (xs.zip ys))) M2
    | _, _ => none
  | .lix i k, ρ, M => match ρ.getD i none with
    | some (.d (.list ds)) => (ev k ρ M).bind fun y M1 => match y with
      | .d d => if (shp (.list ds) && shp d) = true then match ds.findIdx? (fun z => PyData.eqv z d) with
          | some j => Rs.ok (.d (.int (j : Nat))) M1
          | none => none
        else none
      | _ => none
    | _ => none
  | .sst e, ρ, M => (ev e ρ M).bind fun x M1 => match x with
    | .d (.list xs) => match intsOf xs with
      | some ks => if ks.length < 64 then Rs.ok (.d (.list ((once ks).map .int))) M1 else none
      | none => none
    | _ => none
  | .lrg t es, ρ, M => (evs es ρ M).bind fun xs M1 => match rangeOf xs with
    | some ys => match datas ys with
      | some zs => if line zs.length = true then Rs.ok (.d (if t then .tuple zs else .list zs)) M1 else none
      | none => none
    | none => none
  | .rng es, ρ, M => (evs es ρ M).bind fun xs M1 => Rs.of ((rangeOf xs).map .its) M1
  | .zip es, ρ, M => (evs es ρ M).bind fun xs M1 => match xs with
    | [.d x, .d y] => if (isTup x == isTup y) = false then none else match seqD M1 (.d x), seqD M1 (.d y) with
      | some xs, some ys => if line (pairs xs ys).length = true then Rs.ok (.its (pairs xs ys)) M1 else none
      | _, _ => none
    | _ => none
  | .enm e, ρ, M => (ev e ρ M).bind fun x M1 => match x with
    | .d (.list xs) => if line xs.length = true then Rs.ok (.its (nums 0 xs)) M1 else none
    | _ => none
def evs : Es → Rho → Ms → Rs (List D)
  | .nil, _, M => Rs.ok [] M
  | .cons e es, ρ, M => (ev e ρ M).bind fun x M1 => (evs es ρ M1).bind fun xs M2 => Rs.ok (x :: xs) M2
end
end
end Ob
/-! ### statements -/
namespace Ob
open PySem PySem.Spec PyProof.Rows L2
/-- how a value is bound: as it is, a new list, a new dict with keys that are numbers or texts, or tuples of these -/
inductive Md where
  | v | l | k | t | p | s
  deriving DecidableEq
mutual
inductive S where
  | asg (tg : Tg) (e : E)
  | new (i : Nat) (m : Md) (e : E)
  | par (is : List (Nat × Md)) (es : Es)
  | put (i : Nat) (k v : E)
  | aug (i : Nat) (op : Operator) (e : E)
  | app (i : Nat) (e : E)
  | ex (e : E)
  | ifs (t : E) (a b : Ss)
  | fors (tg : Tg) (it : E) (b : Ss)
  | forO (tg : Tg) (i : Nat) (b : Ss)
  | whl (t : E) (b : Ss)
  | ret (e : E) | retL (e : E) | ret0 | brk | cont | pass
  | rais (c : Nat) | nev
inductive Ss where
  | nil | cons (a : S) (b : Ss)
end
inductive Fl where
  | nx | rt (x : D) | bk | ct
def keyedK : List (PyData × PyData) → Option (List (Key × PyData))
  | [] => some []
  | (k, v) :: r => match keyOf k, keyedK r with
    | some k, some r => some ((k, v) :: r)
    | _, _ => none
def keyedT : List (PyData × PyData) → Option (List (List Key × PyData))
  | [] => some []
  | (k, v) :: r => match keyT k, keyedT r with
    | some k, some r => some ((k, v) :: r)
    | _, _ => none
/-- the later of two alike keys -/
def merges {κ : Type} [DecidableEq κ] (acc : List (κ × PyData)) : List (κ × PyData) → List (κ × PyData)
  | [] => acc
  | (k, v) :: r => merges (store acc k v) r
/-- pairs of keys and values, in a list -/
def pairsK : List PyData → Option (List (Key × PyData))
  | [] => some []
  | .tuple [k, v] :: r => match keyOf k, pairsK r with
    | some k, some r => some ((k, v) :: r)
    | _, _ => none
  | _ => none
/-- a value laid as a new object -/
def layM (m : Md) (x : D) (M : Ms) : Option (D × Ms) := match m, x with
  | .v, x => some (x, M)
  | .l, .d (.list xs) => some (.own M.length, M ++ [.lst xs])
  | .k, .d (.dict kvs) => (keyedK kvs).map fun ks => (.own M.length, M ++ [.dK (merges [] ks)])
  | .t, .d (.dict kvs) => (keyedT kvs).map fun ks => (.own M.length, M ++ [.dT (merges [] ks)])
  | .s, .d (.tuple [k, v]) => (keyOf k).map fun k => (.own M.length, M ++ [.dK [(k, v)]])
  | .p, .d (.list ps) => (pairsK ps).map fun ks => (.own M.length, M ++ [.dK (merges [] ks)])
  | _, _ => none
def forLoop (body : D → Rho → Ms → Rs (Fl × Rho)) : List D → Rho → Ms → Rs (Fl × Rho)
  | [], ρ, M => Rs.ok (.nx, ρ) M
  | x :: xs, ρ, M => (body x ρ M).bind fun f M1 => match f with
    | (.nx, ρ1) => forLoop body xs ρ1 M1
    | (.ct, ρ1) => forLoop body xs ρ1 M1
    | (.bk, ρ1) => Rs.ok (.nx, ρ1) M1
    | (.rt d, ρ1) => Rs.ok (.rt d, ρ1) M1
def whlLoop (test : Rho → Ms → Rs D) (body : Rho → Ms → Rs (Fl × Rho)) : Nat → Rho → Ms → Rs (Fl × Rho)
  | 0, _, _ => none
  | n + 1, ρ, M => (test ρ M).bind fun c M1 => match c with
    | .d (.bool true) => (body ρ M1).bind fun f M2 => match f with
      | (.nx, ρ1) => whlLoop test body n ρ1 M2
      | (.ct, ρ1) => whlLoop test body n ρ1 M2
      | (.bk, ρ1) => Rs.ok (.nx, ρ1) M2
      | (.rt d, ρ1) => Rs.ok (.rt d, ρ1) M2
    | .d (.bool false) => Rs.ok (.nx, ρ) M1
    | _ => none
/-- o[k] = v -/
def putM (M : Ms) (o : D) (k v : PyData) : Option Ms := match o with
  | .own n => match M[n]? with
    | some (.lst xs) => match k with
      | .int i => (ixN xs.length i).map fun j => M.set n (.lst (xs.set j v))
      | _ => none
    | some (.dK kvs) => match keyOf k with
      | some k => if line (kvs.length + 1) = true then some (M.set n (.dK (store kvs k v))) else none
      | none => none
    | some (.dT kvs) => match keyT k with
      | some k => if line (kvs.length + 1) = true then some (M.set n (.dT (store kvs k v))) else none
      | none => none
    | _ => none
  | _ => none
def isLst (M : Ms) (o : D) : Bool := match o with
  | .own n => match M[n]? with
    | some (.lst _) => true
    | _ => false
  | _ => false
def appM (M : Ms) (o : D) (v : PyData) : Option Ms := match o with
  | .own n => match M[n]? with
    | some (.lst xs) => if line (xs.length + 1) = true then some (M.set n (.lst (xs ++ [v]))) else none
    | _ => none
  | _ => none
section
variable (call : Nat → List D → Ms → Rs D) (wf : Nat)
def evM (m : Md) (e : E) (ρ : Rho) (M : Ms) : Rs D := (ev call e ρ M).bind fun x M1 => match layM m x M1 with
  | some (y, M2) => Rs.ok y M2
  | none => none
def evPar : List (Nat × Md) → Es → Rho → Ms → Rs (List D)
  | [], .nil, _, M => Rs.ok [] M
  | (_, m) :: is, .cons e es, ρ, M => (evM call m e ρ M).bind fun x M1 => (evPar is es ρ M1).bind fun xs M2 => Rs.ok (x :: xs) M2
  | _, _, _, _ => none
def setAll : List (Nat × Md) → List D → Rho → Rho
  | (i, _) :: is, x :: xs, ρ => setAll is xs (ρ.set i (some x))
  | _, _, ρ => ρ
mutual
def evS : S → Rho → Ms → Rs (Fl × Rho)
  | .asg tg e, ρ, M => (ev call e ρ M).bind fun x M1 => match bindTg tg x ρ with
    | some ρ1 => Rs.ok (.nx, ρ1) M1
    | none => none
  | .new i m e, ρ, M => (evM call m e ρ M).bind fun x M1 => Rs.ok (.nx, ρ.set i (some x)) M1
  | .par is es, ρ, M => (evPar call is es ρ M).bind fun xs M1 => Rs.ok (.nx, setAll is xs ρ) M1
  | .put i k v, ρ, M => match ρ.getD i none with
    | some x => (ev call v ρ M).bind fun z M1 => (ev call k ρ M1).bind fun y M3 => match y, z with
      | .d y, .d z => match putM M3 x y z with
        | some M4 => Rs.ok (.nx, ρ) M4
        | none => none
      | _, _ => none
    | none => none
  | .aug i op e, ρ, M => match ρ.getD i none with
    | some x => (ev call e ρ M).bind fun y M1 => match op, x, y with
      | .Add, .d (.int a), .d (.int b) => Rs.ok (.nx, ρ.set i (some (.d (.int (a + b))))) M1
      | .Sub, .d (.int a), .d (.int b) => Rs.ok (.nx, ρ.set i (some (.d (.int (a - b))))) M1
      | .Add, .own n, .d (.list ys) => match M1[n]? with
        | some (.lst xs) => if line (xs.length + ys.length) = true then Rs.ok (.nx, ρ) (M1.set n (.lst (xs ++ ys))) else none
        | _ => none
      | _, _, _ => none
    | none => none
  | .app i e, ρ, M => match ρ.getD i none with
    | some x => if isLst M x = true then (ev call e ρ M).bind fun y M2 => match y with
      | .d y => match appM M2 x y with
        | some M3 => Rs.ok (.nx, ρ) M3
        | none => none
      | _ => none
      else none
    | none => none
  | .ex e, ρ, M => (ev call e ρ M).bind fun _ M1 => Rs.ok (.nx, ρ) M1
  | .ifs t a b, ρ, M => (ev call t ρ M).bind fun c M1 => match c with
    | .d (.bool true) => evSs a ρ M1
    | .d (.bool false) => evSs b ρ M1
    | _ => none
  | .fors tg it b, ρ, M => (ev call it ρ M).bind fun w M1 => match itemsOf w with
    | some xs => forLoop (fun x ρ M => match bindTg tg x ρ with
      | some ρ1 => evSs b ρ1 M
      | none => none) xs ρ M1
    | none => none
  | .forO tg i b, ρ, M => match ρ.getD i none with
    | some (.own n) => match lockO M n with
      | some (xs, M1) => (forLoop (fun x ρ M => match bindTg tg x ρ with
        | some ρ1 => evSs b ρ1 M
        | none => none) xs ρ M1).bind fun f M2 => match unlockO M2 n with
          | some M3 => Rs.ok f M3
          | none => none
      | none => none
    | _ => none
  | .whl t b, ρ, M => whlLoop (fun ρ M => ev call t ρ M) (fun ρ M => evSs b ρ M) wf ρ M
  | .ret e, ρ, M => (ev call e ρ M).bind fun x M1 => Rs.ok (.rt x, ρ) M1
  | .retL e, ρ, M => (evM call .l e ρ M).bind fun x M1 => Rs.ok (.rt x, ρ) M1
  | .ret0, ρ, M => Rs.ok (.rt (.d .none), ρ) M
  | .brk, ρ, M => Rs.ok (.bk, ρ) M
  | .cont, ρ, M => Rs.ok (.ct, ρ) M
  | .pass, ρ, M => Rs.ok (.nx, ρ) M
  | .rais c, _, M => some (.error ⟨c, none, M⟩)
  | .nev, _, _ => none
def evSs : Ss → Rho → Ms → Rs (Fl × Rho)
  | .nil, ρ, M => Rs.ok (.nx, ρ) M
  | .cons a b, ρ, M => (evS a ρ M).bind fun f M1 => match f with
    | (.nx, ρ1) => evSs b ρ1 M1
    | (f, ρ1) => Rs.ok (f, ρ1) M1
end
end
/-! ### defs -/
/-- a def: its name, its parameters, all its names (the parameters first), its scope, its body; nw: what it returns is new; tfs: .. -/
structure Fd where
  name : Str
  ps : List Str
  N : List Str
  body : Ss
  nw : Bool
/-- what a def hands back: its own lists are let go -/
def fin (nw : Bool) (M : Ms) (m : Nat) (x : D) : Option D := match x with
  | .d x => if nw = true then none else some (.d x)
  | .own n => if n < m then (if nw = true then none else some (.own n)) else match M[n]? with
    | some (.lst xs) => some (.d (.list xs))
    | _ => none
  | _ => none
def evFn (T : List Fd) (wf : Nat) : Nat → Nat → List D → Ms → Rs D
  | 0, _, _, _ => none
  | n + 1, f, ds, M => match T[f]? with
    | none => none
    | some fd => if ds.length = fd.ps.length then
        match evSs (evFn T wf n) wf fd.body (ds.map some ++ List.replicate (fd.N.length - ds.length) none) M with
        | none => none
        | some (.error x) => some (.error { x with M := x.M.take M.length })
        | some (.ok ((f, _), M1)) => match f with
          | .nx => if fd.nw = true then none else Rs.ok (.d .none) (M1.take M.length)
          | .rt x => match fin fd.nw M1 M.length x with
            | some y => Rs.ok y (M1.take M.length)
            | none => none
          | _ => none
      else none
end Ob
/-! ### the check that a text of this language is the program's -/
namespace Ob
open PySem PySem.Spec PyProof.Rows L2
def vName : Expr → Option (Str × Pos)
  | .Name x p => some (x, p)
  | _ => none
theorem vName_eq {x : Expr} {n : Str} {p : Pos} (h : vName x = some (n, p)) : x = .Name n p := by
  cases x <;> simp [vName] at h
  obtain ⟨rfl, rfl⟩ := h
  rfl
/-- f(..) without keywords -/
def vCall : Expr → Option (Str × Pos × List Expr × Pos)
  | .Call (.Name x p) es [] pos => some (x, p, es, pos)
  | _ => none
theorem vCall_eq {x : Expr} {n : Str} {p pos : Pos} {es : List Expr} (h : vCall x = some (n, p, es, pos)) : x = .Call (.Name n p) es [] pos := by
  unfold vCall at h
  split at h <;> simp at h
  obtain ⟨rfl, rfl, rfl, rfl⟩ := h
  rfl
/-- o.m(..) without keywords, o a name -/
def vMeth : Expr → Option (Str × Pos × Str × Pos × List Expr × Pos)
  | .Call (.Attribute (.Name x p) m q) es [] pos => some (x, p, m, q, es, pos)
  | _ => none
theorem vMeth_eq {x : Expr} {n m : Str} {p q pos : Pos} {es : List Expr} (h : vMeth x = some (n, p, m, q, es, pos)) : x = .Call (.Attribute (.Name n p) m q) es [] pos := by
  unfold vMeth at h
  split at h <;> simp at h
  obtain ⟨rfl, rfl, rfl, rfl, rfl, rfl⟩ := h
  rfl
/-- no name that the machine keeps for itself -/
def okN (x : Str) : Bool := !(x == ("__debug__" : Str)) && !(x == ("__classdict__" : Str)) && !(x == ("__name__" : Str))
def visB (sc : Scope) (x : Str) : Bool := match sc.names.lookup x with
  | some .local => true
  | some .cell => true
  | some .free => true
  | _ => false
def locB (sc : Scope) (x : Str) : Bool := match sc.names.lookup x with
  | some .local => true
  | some .cell => true
  | _ => false
def glB (sc : Scope) (x : Str) : Bool := match sc.names.lookup x with
  | some .globalImplicit => true
  | _ => false
/-- the name stands in slot i -/
def slotB (sc : Scope) (N : List Str) (i : Nat) (x : Str) : Bool := decide (N[i]? = some x) && visB sc x && okN x
def btName : Bt → Str × Nat
  | .len => ("len", 1) | .abs => ("abs", 1) | .min2 => ("min", 2) | .max2 => ("max", 2) | .min => ("min", 1) | .max => ("max", 1)
  | .sum => ("sum", 1) | .sorted => ("sorted", 1) | .tuple => ("tuple", 1) | .list => ("list", 1) | .all => ("all", 1) | .any => ("any", 1)
  | .int => ("int", 1) | .str => ("str", 1) | .repr => ("repr", 1) | .gcd => ("gcd", 2)
def tyName : Ty → Str
  | .int => "int" | .bool => "bool" | .tuple => "tuple" | .str => "str"
def ownOf (N : List Str) (vs : List Nat) : List (Str × Nat) := vs.map fun i => (N.getD i "", i)
def plainX : Expr → Bool
  | .Starred .. => false
  | .Set .. => false
  | .Slice .. => false
  | _ => true
def tstX : Expr → Bool
  | .UnaryOp .Not _ _ => false
  | .BoolOp .. => false
  | .IfExp .. => false
  | .Compare .. => false
  | _ => true
def isBop : E → Bool
  | .conj _ _ => true
  | .disj _ _ => true
  | _ => false
def isTst : E → Bool
  | .not _ => true
  | .conj _ _ => true
  | .disj _ _ => true
  | .ite _ _ _ => true
  | .cmp _ _ _ => true
  | .cmp2 _ _ _ _ _ => true
  | _ => false
def isIt : E → Bool
  | .rng _ => true
  | .zip _ => true
  | .enm _ => true
  | _ => false
/-- where a walk gives pairs, the target is a pair -/
def itTg : E → Tg → Bool
  | .zip _, .nm _ => false
  | .enm _, .nm _ => false
  | _, _ => true
mutual
def tgIx : Tg → List Nat
  | .nm i => [i]
  | .tp ts => tgsIx ts
def tgsIx : Tgs → List Nat
  | .nil => []
  | .cons t ts => tgIx t ++ tgsIx ts
end
structure Tab where
  fns : List Fd
  consts : List (Str × Int)
  gcd : Bool
section
variable (T : Tab) (N : List Str)
mutual
def mtTg (s0 : Scope) : Tg → Expr → Bool
  | .nm i, x => match vName x with
    | some (n, _) => decide (N[i]? = some n) && locB s0 n
    | none => false
  | .tp ts, x => match x with
    | .Tuple es _ _ => mtTgs s0 ts es
    | _ => false
def mtTgs (s0 : Scope) : Tgs → List Expr → Bool
  | .nil, es => es.isEmpty
  | .cons t ts, es => match es with
    | e :: es => mtTg s0 t e && mtTgs s0 ts es
    | [] => false
end
mutual
def mt : Bool → Scope → E → Expr → Bool
  | _, sc, .var i, x => match vName x with
    | some (n, _) => slotB sc N i n
    | none => false
  | _, _, .int i, x => match x with
    | .Constant (.int j) _ _ => decide (i = j)
    | _ => false
  | _, _, .bl b, x => match x with
    | .Constant (.bool j) _ _ => b == j
    | _ => false
  | _, _, .non, x => match x with
    | .Constant .none _ _ => true
    | _ => false
  | _, _, .str s, x => match x with
    | .Constant (.str j) _ _ => decide (s = j)
    | _ => false
  | _, sc, .gi y i, x => match vName x with
    | some (n, _) => decide (n = y) && glB sc n && okN n && decide (T.consts.lookup n = some i)
    | none => false
  | _, sc, .bin op a b, x => match x with
    | .BinOp l o r _ => decide (op = o) && mt false sc a l && mt false sc b r
    | _ => false
  | _, sc, .neg a, x => match x with
    | .UnaryOp .USub l _ => mt false sc a l
    | _ => false
  | _, sc, .cmp op a b, x => match x with
    | .Compare l [o] [r] _ => decide (op = o) && plainX r && mt false sc a l && mt false sc b r
    | _ => false
  | _, sc, .cmp2 op op' a b c, x => match x with
    | .Compare l [o, o'] [r, q] _ => decide (op = o) && decide (op' = o') && plainX q && mt false sc a l && mt false sc b r && mt false sc c q
    | _ => false
  | _, sc, .conj a b, x => match x with
    | .BoolOp .And (l :: r :: rest) pos => (tstX l || isTst a) && mt false sc a l && (match rest with
      | [] => (tstX r || isTst b) && mt false sc b r
      | _ => isBop b && mt false sc b (.BoolOp .And (r :: rest) pos))
    | _ => false
  | _, sc, .disj a b, x => match x with
    | .BoolOp .Or (l :: r :: rest) pos => (tstX l || isTst a) && mt false sc a l && (match rest with
      | [] => (tstX r || isTst b) && mt false sc b r
      | _ => isBop b && mt false sc b (.BoolOp .Or (r :: rest) pos))
    | _ => false
  | _, sc, .not a, x => match x with
    | .UnaryOp .Not l _ => (tstX l || isTst a) && mt false sc a l
    | _ => false
  | _, sc, .ite t a b, x => match x with
    | .IfExp c l r _ => (tstX c || isTst t) && mt false sc t c && (tstX l || isTst a) && mt false sc a l && (tstX r || isTst b) && mt false sc b r
    | _ => false
  | _, sc, .tup es, x => match x with
    | .Tuple xs _ _ => mts sc es xs
    | _ => false
  | _, sc, .lst es, x => match x with
    | .List xs _ => mts sc es xs
    | _ => false
  | _, sc, .ix a b, x => match x with
    | .Subscript l r _ => plainX r && mt false sc a l && mt false sc b r
    | _ => false
  | _, sc, .slc a lo hi, x => match x with
    | .Subscript l (.Slice lo' hi' none _) _ => mt false sc a l && (match lo' with
      | none => isNop lo
      | some e => !isNop lo && mt false sc lo e) && (match hi' with
      | none => isNop hi
      | some e => !isNop hi && mt false sc hi e)
    | _ => false
  | _, sc, .rev a, x => match x with
    | .Subscript l (.Slice none none (some (.UnaryOp .USub (.Constant (.int 1) _ _) _)) _) _ => mt false sc a l
    | _ => false
  | _, _, .nop, _ => false
  | _, sc, .call f es, x => match vCall x with
    | some (n, _, xs, _) => decide ((T.fns[f]?).map (·.name) = some n) && glB sc n && okN n && mts sc es xs
    | none => false
  | _, sc, .blt b es, x => match vCall x with
    | some (n, _, xs, _) => (T.gcd || decide (b ≠ .gcd)) && decide (n = (btName b).1) && decide (xs.length = (btName b).2) && glB sc n && okN n && mts sc es xs
    | none => false
  | _, sc, .isi a t, x => match vCall x with
    | some (n, _, [l, r], _) => decide (n = "isinstance") && glB sc n && okN n && plainX l && mt false sc a l && (match vName r with
      | some (m, _) => decide (m = tyName t) && glB sc m && okN m
      | none => false)
    | _ => false
  | _, sc, .get i k, x => match vMeth x with
    | some (n, _, m, q, [l], pos) => slotB sc N i n && decide (m = "get") && (q.endLine == pos.line) && plainX l && mt false sc k l
    | _ => false
  | _, sc, .get2 i k v, x => match vMeth x with
    | some (n, _, m, q, [l, r], pos) => slotB sc N i n && decide (m = "get") && (q.endLine == pos.line) && plainX l && plainX r && mt false sc k l && mt false sc v r
    | _ => false
  | _, sc, .lc elt tg it cond vs, x => match x with
    | .ListComp e [⟨t, i, ifs, 0⟩] scope _ => itTg it tg && (tgIx tg).all (fun i => vs.contains i) && plainX i && blkC N sc scope (ownOf N vs) && mt (isIt it) sc it i && mtTg N scope tg t && mt false (relS scope sc) elt e && (match ifs with
      | [] => isNop cond
      | [c] => !isNop cond && (tstX c || isTst cond) && mt false (relS scope sc) cond c
      | _ => false)
    | _ => false
  | _, sc, .lcO elt tg j cond vs, x => match x with
    | .ListComp e [⟨t, i, ifs, 0⟩] scope _ => (tgIx tg).all (fun i => vs.contains i) && plainX i && blkC N sc scope (ownOf N vs) && (match vName i with
      | some (n, _) => slotB sc N j n
      | none => false) && mtTg N scope tg t && mt false (relS scope sc) elt e && (match ifs with
      | [] => isNop cond
      | [c] => !isNop cond && (tstX c || isTst cond) && mt false (relS scope sc) cond c
      | _ => false)
    | _ => false
  | _, sc, .lc2 elt tg it cond vs tg1 it1 cond1 vs1, x => match x with
    | .ListComp e [⟨t, i, ifs, 0⟩, ⟨t1, i1, ifs1, 0⟩] scope _ => itTg it tg && itTg it1 tg1 && (tgIx tg).all (fun i => vs.contains i) && (tgIx tg1).all (fun i => vs1.contains i) && vs1.all (fun i => vs.contains i) && plainX i && plainX i1 && blkC N sc scope (ownOf N vs)
      && mt (isIt it) sc it i && mtTg N scope tg t && mt (isIt it1) (relS scope sc) it1 i1 && mtTg N scope tg1 t1 && mt false (relS scope sc) elt e && (match ifs with
      | [] => isNop cond
      | [c] => !isNop cond && (tstX c || isTst cond) && mt false (relS scope sc) cond c
      | _ => false) && (match ifs1 with
      | [] => isNop cond1
      | [c] => !isNop cond1 && (tstX c || isTst cond1) && mt false (relS scope sc) cond1 c
      | _ => false)
    | _ => false
  | w, sc, .dct ks vs, x => match x with
    | .Dict keys values _ => w && decide (keys.length ≤ 15) && decide (keys.length = values.length) && keys.all (·.isSome) && mts sc ks (keys.filterMap id) && mts sc vs values
    | _ => false
  | _, sc, .lix i k, x => match vMeth x with
    | some (n, _, m, q, [l], pos) => slotB sc N i n && decide (m = "index") && (q.endLine == pos.line) && plainX l && mt false sc k l
    | _ => false
  | _, sc, .sst e, x => match vCall x with
    | some (n, _, [l], _) => decide (n = "sorted") && glB sc n && okN n && (match vCall l with
      | some (m, _, [a], _) => plainX l && decide (m = "set") && glB sc m && okN m && plainX a && mt false sc e a
      | _ => false)
    | _ => false
  | _, sc, .lrg t es, x => match vCall x with
    | some (n, _, [l], _) => decide (n = if t then "tuple" else "list") && glB sc n && okN n && (match vCall l with
      | some (m, _, xs, _) => plainX l && decide (m = "range") && glB sc m && okN m && decide (xs.length ≤ 2) && decide (1 ≤ xs.length) && mts sc es xs
      | none => false)
    | _ => false
  | w, sc, .rng es, x => match vCall x with
    | some (n, _, xs, _) => w && decide (n = "range") && glB sc n && okN n && decide (xs.length ≤ 3) && decide (1 ≤ xs.length) && mts sc es xs
    | none => false
  | w, sc, .zip es, x => match vCall x with
    | some (n, _, xs, _) => w && decide (n = "zip") && glB sc n && okN n && decide (xs.length = 2) && mts sc es xs
    | none => false
  | w, sc, .enm e, x => match vCall x with
    | some (n, _, [l], _) => w && decide (n = "enumerate") && glB sc n && okN n && plainX l && mt false sc e l
    | _ => false
def mts : Scope → Es → List Expr → Bool
  | _, .nil, xs => xs.isEmpty
  | sc, .cons e es, xs => match xs with
    | x :: xs => plainX x && mt false sc e x && mts sc es xs
    | [] => false
end
/-- what makes a new list -/
def frs : E → Bool
  | .lst _ => true
  | .lc _ _ _ _ _ => true
  | .lcO _ _ _ _ _ => true
  | .lc2 _ _ _ _ _ _ _ _ _ => true
  | .bin _ _ _ => true
  | .slc _ _ _ => true
  | .rev _ => true
  | .blt .sorted _ => true
  | .blt .list _ => true
  | .lrg _ _ => true
  | .sst _ => true
  | .call f _ => (T.fns[f]?).any (·.nw)
  | .ite _ a b => frs a && frs b
  | _ => false
end
end Ob

set_option Elab.async false
set_option linter.all false
set_option maxRecDepth 100000
set_option maxHeartbeats 1000000
/-! t[::-1] of a tuple, and of either kind -/
namespace HT
open PySem PySem.Spec PySem.Calls PyProof.Rows PyProof L2
variable {prog : Program} {w : World} {A : Around} {E : Value → Shared → Prop} {s : Shared}
theorem applied_rev {sl : Addr} {vl vu vs : Value} {n : Nat} {Q : Int × Int × Nat → Shared → Prop} (hs : s.heap.IsSliceOf sl vl vu vs) (pl : IsPart vl none) (pu : IsPart vu none) (ps : IsPart vs (some (-1)))
    (h : Q ((n : Int) - 1, -1, n) s) : wpAny (model prog w) A (Builtin.Slice.sliceApplied (.ref sl) (pure (n : Int))) Q E s := by
  obtain ⟨os, hos, _, hds⟩ := id hs
  unfold Builtin.Slice.sliceApplied Builtin.Slice.sliceFields
  refine wpAny_bind (wpAny_bind (wpAny_field hos hds (x := vl) rfl (wpAny_bind (wpAny_field hos hds (x := vu) rfl (wpAny_bind (wpAny_field hos hds (x := vs) rfl (wpAny_pure ?_)))))))
  refine wpAny_bind (slicePart_ ps ?_)
  show wpAny _ _ (if ((-1 : Int) == 0) = true then _ else _) _ _ s
  rw [if_neg (by decide)]
  have e1 : Builtin.Slice.sliceAdjust none none (-1) (n : Int) = ((n : Int) - 1, -1) := rfl
  have e2 : Builtin.Slice.slicePlaces ((n : Int) - 1) (-1) (-1) = n := by
    show (if (-1 : Int) > 0 then _ else if ((n : Int) - 1) > -1 then (((n : Int) - 1) - (-1) - 1) / (-(-1)) + 1 else (0 : Int)).toNat = n
    rw [if_neg (by decide)]
    have e3 : (-(-1) : Int) = 1 := rfl
    rw [e3, Int.ediv_one]
    split <;> omega
  refine wpAny_bind (slicePart_ pl (wpAny_bind (slicePart_ pu (wpAny_bind (wpAny_pure (wpAny_pure ?_))))))
  show Q ((n : Int) - 1, -1, Builtin.Slice.slicePlaces ((n : Int) - 1) (-1) (-1)) s
  rw [e2]
  exact h
theorem pick_rev (xs : Array Value) : ((List.range xs.size).filterMap fun (m : Nat) => xs[(((xs.size : Nat) : Int) - 1 + (m : Int) * (-1)).toNat]?).toArray = xs.toList.reverse.toArray := by
  congr 1
  have e : ∀ m ∈ List.range xs.size, xs[(((xs.size : Nat) : Int) - 1 + (m : Int) * (-1)).toNat]? = xs.toList.reverse[m]? := by
    intro m hm
    have hm : m < xs.size := List.mem_range.mp hm
    have z : (((xs.size : Nat) : Int) - 1 + (m : Int) * (-1)).toNat = xs.size - 1 - m := by omega
    rw [z, List.getElem?_reverse (by rw [Array.length_toList]; exact hm), Array.length_toList, Array.getElem?_toList]
  have key : ∀ (f g : Nat → Option Value) (l : List Nat), (∀ m ∈ l, f m = g m) → l.filterMap f = l.filterMap g := by
    intro f g l
    induction l with
    | nil => intro _; rfl
    | cons a l ih => intro h; rw [List.filterMap_cons, List.filterMap_cons, h a (by simp), ih fun m hm => h m (by simp [hm])]
  rw [key _ _ _ e]
  have fin : ∀ l : List Value, (List.range l.length).filterMap (fun m => l[m]?) = l := by
    intro l
    induction l with
    | nil => rfl
    | cons a l ih =>
      rw [List.length_cons, List.range_succ_eq_map, List.filterMap_cons]
      simp only [List.getElem?_cons_zero, List.filterMap_map]
      exact congrArg (a :: ·) ih
  have hl : xs.size = xs.toList.reverse.length := by rw [List.length_reverse, Array.length_toList]
  rw [hl]
  exact fin _
theorem getItem_tuple_back {t sl : Addr} {items : Array Value} {vl vu vs : Value} {Q : Value → Shared → Prop} (ht : IsTup s.heap t items) (hs : s.heap.IsSliceOf sl vl vu vs) (pl : IsPart vl none) (pu : IsPart vu none) (ps : IsPart vs (some (-1)))
    (hsz : items.size ≤ sizeLine) (h : Q (.ref s.heap.objs.size) { s with heap := s.heap.push { cls := .type "tuple", data := .seq items.toList.reverse.toArray } }) : wpAny (model prog w) A (getItem (.ref t) (.ref sl)) Q E s := by
  have hT : s.TypeIs (.ref sl) "slice" := by obtain ⟨os, hos, hcs, _⟩ := id hs; exact ⟨os, hos, hcs⟩
  have hk : sizeOk (.seq items.toList.reverse.toArray) := by
    show items.toList.reverse.toArray.size ≤ sizeLine
    rw [List.size_toArray, List.length_reverse, Array.length_toList]; exact hsz
  unfold getItem
  try with_reducible refine wpAny_holding ?_
  first | refine wpAny_bind (wpAny_pure ?_) | skip
  refine wpAny_bind (wpAny_sequenceKey ht.typeIs (by decide) (wpAny_bind (wpAny_callSpecial?_slot (name := Str.ofString "__getitem__") ht.typeIs PyProof.Rows.slot_tuple_getitem (wpAny_call_entry PyProof.Rows.slot_tuple_getitem ht.typeIs entry_tuple_getitem ?_ (args_tuple_getitem _ _)))))
  show wpAny _ _ (Builtin.Tuple.tupleItemsOf (.ref t) >>= _) _ _ s
  refine wpAny_bind (tupleItemsOf_ ht (wpAny_bind (wpAny_typeOf hT ?_)))
  rw [if_pos (by decide)]
  refine wpAny_bind (applied_rev hs pl pu ps ?_)
  have hno : ¬ (((((items.size : Nat) : Int) - 1) == 0 && (-1 : Int) == 1 && items.size == items.size) = true) := by
    intro q
    rw [Bool.and_eq_true, Bool.and_eq_true] at q
    exact absurd q.1.2 (by decide)
  show wpAny _ _ (if ((((items.size : Nat) : Int) - 1) == 0 && (-1 : Int) == 1 && items.size == items.size) = true then _ else _) _ _ s
  rw [if_neg hno, pick_rev]
  first
    | exact wpAny_bind (m := Builtin.Tuple.tupleExact _) (wpAny_newObj_type (wpAny_pure ⟨_, rfl, wpAny_pure h⟩) hk) | exact wpAny_bind (m := Builtin.Tuple.tupleExact _) (wpAny_newObj_type (wpAny_bind (wpAny_pure (wpAny_pure ⟨_, rfl, wpAny_pure h⟩))) hk)
    | exact wpAny_bind (wpAny_bind (m := Builtin.Tuple.tupleExact _) (wpAny_newObj_type (wpAny_pure (wpAny_pure ⟨_, rfl, wpAny_pure h⟩)) hk)) | exact wpAny_bind (wpAny_bind (m := Builtin.Tuple.tupleExact _) (wpAny_newObj_type (wpAny_pure ⟨_, rfl, wpAny_pure h⟩) hk))
end HT
namespace L2
open PySem PySem.Spec PyProof.Rows
variable {X : Cx}
def tRevA (K : PySem.W.Frag) (te : TE) : TE := fun σ H Q => te σ H fun x H1 => ∃ a xs, x = .ref a ∧ ((SqL K H1 a xs ∧ ∀ p, H1 p = none → Q (.ref p) (upd H1 p (.lst xs.reverse))) ∨ (SqT K H1 a xs ∧ ∀ p, H1 p = none → Q (.ref p) (upd H1 p (.tup xs.reverse))))
theorem pe_revA {e : Expr} {te : TE} {k : Nat} {p1 p2 p3 pos : Pos} (he : PE X e te) : PE X (.Subscript e (.Slice none none (some (.UnaryOp .USub (.Constant (.int 1) k p1) p2)) p3) pos) (tRevA X.K te) := by
  refine ⟨fun pins s σ H Q I h => Subscript_ (thn (he.run pins s σ H _ I h) fun v s1 ⟨x, H1, I1, r1, a, xs, ex, q⟩ => ?_)⟩
  subst ex; cases r1
  have hst : PO X (some (.UnaryOp .USub (.Constant (.int 1) k p1) p2)) (tPart (tUn (rU fun i => .int (-i)) (tC (.int 1)))) := po_some (pe_un un_neg pe_int)
  refine wpAny_Slice (thn (po_none.run pins s1 σ H1 (fun o H2 => o = none ∧ H2 = H1) I1 ⟨rfl, rfl⟩) fun vl s2 ⟨l, H2, I2, pl, el, e2⟩ => ?_)
  subst el; subst e2
  refine thn (po_none.run pins s2 σ H2 (fun o H3 => o = none ∧ H3 = H2) I2 ⟨rfl, rfl⟩) fun vu s3 ⟨u, H3, I3, pu, eu, e3⟩ => ?_
  subst eu; subst e3
  refine thn (hst.run pins s3 σ H3 (fun o H4 => o = some (-1) ∧ H4 = H3) I3 ⟨1, rfl, -1, rfl, rfl, rfl⟩) fun vs s4 ⟨o, H4, I4, ps, eo, e4⟩ => ?_
  subst eo; subst e4
  have I5 : Inv X pins σ H4 { s4 with heap := s4.heap.push { cls := .type "slice", data := .fields #[vl, vu, vs] } } := I4.kept (t' := s4.toks) fun b ob z => Heap.get?_push_of_some _ z
  show wpAny (model X.prog X.w) X.A (subscriptTail e (.Slice none none (some (.UnaryOp .USub (.Constant (.int 1) k p1) p2)) p3) (.ref a) (.ref s4.heap.objs.size)) (EP X pins σ Q) X.xe { s4 with heap := s4.heap.push { cls := .type "slice", data := .fields #[vl, vu, vs] } }
  rcases q with ⟨hx, q⟩ | ⟨hx, q⟩
  · obtain ⟨its, r, ht, hz⟩ := I5.list hx
    have hlen := r.length
    refine tail_any (ops := [.ref a, .ref s4.heap.objs.size]) ht.isList.typeIs (PySem.slot_list_getitem.lookup) (wpAny_getItem_list_slice ht.isList (Heap.IsSliceOf.new _ vl vu vs) pl pu ps (by decide) ?_ (by rw [List.size_toArray]; omega)) (by with_unfolding_all rfl)
    rw [PySem.W.krv_pick]
    exact ⟨.ref _, _, I5.laid (t' := s4.toks) (o := .lst xs.reverse) (fun b ob z => Heap.get?_push_of_some _ z) (Nat.le_refl _) ⟨by rw [List.length_reverse]; exact hz, _, 0, r.reverse, Heap.get?_push_size _ rfl⟩, rfl, q _ (I5.hok.fresh (Nat.le_refl _))⟩
  · obtain ⟨its, r, ht, hz⟩ := I5.tuple hx
    have hlen := r.length
    refine tail_any (ops := [.ref a, .ref s4.heap.objs.size]) ht.typeIs (PyProof.Rows.slot_tuple_getitem.lookup) (HT.getItem_tuple_back ht (Heap.IsSliceOf.new _ vl vu vs) pl pu ps (by rw [List.size_toArray]; omega) ?_) (by with_unfolding_all rfl)
    exact ⟨.ref _, _, I5.laid (t' := s4.toks) (o := .tup xs.reverse) (fun b ob z => Heap.get?_push_of_some _ z) (Nat.le_refl _) ⟨by rw [List.length_reverse]; exact hz, _, by simpa using r.reverse, IsTup.new _ _⟩, rfl, q _ (I5.hok.fresh (Nat.le_refl _))⟩
end L2

set_option Elab.async false
set_option linter.all false
set_option maxRecDepth 100000
set_option maxHeartbeats 4000000
/-! sorted(set(xs)), xs a list of ints -/
namespace Ob
open PySem PySem.Spec PyProof.Rows L2
section
variable {P : Program} {w : World} {A : Around} {E : Value → Shared → Prop} {s : Shared}
/-- the new set, as its class makes it -/
def freshSet (w : World) : Obj := { cls := .type "set", dict := none, data := .set #[] 0 (.fresh 0 0 (!w.params.followText "set-order")) }
theorem set_of_list {l : Addr} {items : Array Value} (ns : List Int) {Q : Value → Shared → Prop} (hh : A.handled = none) (hl : s.heap.IsList l items) (hit : IntsAre items.toList ns) (hb : ns.length + 1 < scanBound)
    (h : ∀ (h' : Heap) (tk c : Nat), SetR w h' s.heap.objs.size (fun j => decide (j ∈ ns)) c → c ≤ ns.length → (∀ b o, s.heap.get? b = some o → h'.get? b = some o) → Q (.ref s.heap.objs.size) { s with heap := h', toks := tk }) :
    wpAny (model P w) A (call (.type "set") [.ref l]) Q E s := by
  have hisz : items.size = ns.length := by
    have q := IntsAre.length hit
    rw [Array.length_toList] at q
    exact q
  obtain ⟨c, tl, hmro⟩ := F.called_set.mro
  have hmade := F.called_set.made
  have hsub := F.called_set.sub
  refine wpAny_call (codeAny_of_tree ?_)
  show wpAny _ _ (callAny (.type "set") _) _ _ _
  refine wpAny_pure ⟨Code.quiet_builtin _ (by decide +kernel), codeAny_builtin F.entry_type_call ?_⟩
  rw [Around.under_plain (weight_type_call_type "set" [.ref l] []) rfl]
  have h1 := F.called_set.notType
  have h2 := F.called_set.canCreate
  have hct := F.typeCall_set_1 (.ref l)
  repeat (any_goals (first | assumption | wp_step))
  refine codeAny_mono (code_set_led1 (.ref l) (E := E) (Q₁ := fun obj s₁ => obj = .ref s.heap.objs.size ∧ s₁ = { s with heap := s.heap.push (freshSet w) }) ⟨rfl, rfl⟩) fun r s₁ hr => ?_
  cases r with
  | error e => exact hr
  | ok fl =>
    cases fl with
    | ret obj =>
      obtain ⟨rfl, rfl⟩ := hr
      have hS : (s.heap.push (freshSet w)).get? s.heap.objs.size = some (freshSet w) := Heap.get?_push_size _ rfl
      have hT : Shared.TypeIs { s with heap := s.heap.push (freshSet w) } (.ref s.heap.objs.size) "set" := ⟨_, hS, rfl⟩
      have hli := F.called_set.init.lookup
      have hbi := F.called_set.init.bind (.ref s.heap.objs.size)
      repeat (any_goals (first | assumption | wp_step))
      refine codeAny_mono (codeAny_call_builtin (R := wants (fun r s₂ => r = .none ∧ ∃ h' tk c, s₂ = { s with heap := h', toks := tk } ∧ SetR w h' s.heap.objs.size (fun j => decide (j ∈ ns)) c ∧ c ≤ ns.length ∧
          (∀ b o, s.heap.get? b = some o → h'.get? b = some o)) E) F.called_set.init.plain F.entry_set_init (check_set_init_1 hT ?_)) fun r₂ s₂ hr₂ => ?_
      · obtain ⟨ol, hol, hcl, nl, hdl⟩ := hl
        obtain ⟨ocls, odict, odata, oslots⟩ := ol
        simp only at hcl hdl
        subst hcl; subst hdl
        have hol' : (s.heap.push (freshSet w)).get? l = some { cls := .type "list", dict := odict, data := .seq items nl, slots := oslots } := Heap.get?_push_of_some _ hol
        have hsls := F.sub_list_set
        have hslf := F.sub_list_frozenset
        have hne : (Value.type "list" == Value.type "dict") = false := by decide
        have hl1 : (s.heap.push (freshSet w)).IsList l items := ⟨_, hol', rfl, nl, rfl⟩
        unfold Builtin.«set.__init__» noKeywords Builtin.Frozenset.updateFrom
        generalize hPI : pyIter = PI
        wp_walk
        subst hPI
        refine wpAny_pyIter_list hl1 ?_
        refine wpAny_bind (wpAny_runValue ?_)
        have hlS : l < s.heap.objs.size := Heap.lt_size hol
        have hh3 : A.in1.in1.in1.handled = none := by simp [hh]
        have hneI : l ≠ (s.heap.push (freshSet w)).objs.size := by
          rw [Heap.size_push]; exact Nat.ne_of_lt (Nat.lt_succ_of_lt hlS)
        have hSf : s.heap.objs.size ∉ [(s.heap.push (freshSet w)).objs.size, l] := by
          rw [Heap.size_push]; simp only [List.mem_cons, List.mem_singleton, List.not_mem_nil, or_false, not_or]
          exact ⟨Nat.ne_of_lt (Nat.lt_succ_self _), Nat.ne_of_gt hlS⟩
        have hval : ∀ (i : Nat) (v : Value), items[i]? = some v → ∃ k t, ns[i]? = some k ∧ v = .int k t := fun i v hv => by
          have hi : i < ns.length := by rw [← hisz]; exact (Array.getElem?_eq_some_iff.mp hv).1
          obtain ⟨t, e⟩ := PyProof.Rows.IntsAre.int_at hit i v (by rw [Array.getElem?_toList]; exact hv)
          refine ⟨ns[i], t, List.getElem?_eq_getElem hi, ?_⟩
          rw [e, List.getD_eq_getElem?_getD, List.getElem?_eq_getElem hi] <;> rfl
        refine set_update_ints ((Walks.list hh3 _ l hneI items).toS) s.heap.objs.size
          hSf ns hisz hb hval (items.size - 0) 0 _ (by omega) (Nat.zero_le _)
          ⟨⟨_, Heap.get?_push_size _ rfl, rfl, rfl⟩, (hl1.push _)⟩ ?hS0 ?hR
        case hS0 =>
          have hget : ((s.heap.push (freshSet w)).push { cls := .type "list_iterator", data := .fields #[.ref l, .int 0 0] }).get? s.heap.objs.size = some (freshSet w) := Heap.get?_push_of_some _ hS
          exact ⟨0, Nat.le_refl 0, setR_new_at hget⟩
        case hR =>
          intro s' c' hm hc' hS'
          obtain ⟨h', g2, d', tk', os'⟩ := s'
          have eg : g2 = s.gens := hm.gens
          have ed : d' = s.drawn := hm.drawn
          have eo : os' = s.os := hm.os
          subst eg; subst ed; subst eo
          show wpAny _ _ _ _ _ _
          refine wpAny_pure ?_
          show wpAny _ _ (ret Value.none) _ _ _
          rw [hisz] at hc'
          refine wpAny_pure ⟨rfl, h', tk', c', rfl, hS', hc', fun b o e => ?_⟩
          have hb0 : b < s.heap.objs.size := Heap.lt_size e
          have hb1 : b ≠ s.heap.objs.size := Nat.ne_of_lt hb0
          have hb2 : b ≠ (s.heap.push (freshSet w)).objs.size := by
            rw [Heap.size_push]; exact Nat.ne_of_lt (Nat.lt_succ_of_lt hb0)
          exact hm.heap b o (by simp only [List.mem_cons, List.mem_singleton, List.not_mem_nil, or_false, not_or]; exact ⟨hb1, hb2⟩) (Heap.get?_push_of_some _ (Heap.get?_push_of_some _ e))
      · cases r₂ with
        | error e => exact hr₂
        | ok fl₂ =>
          cases fl₂ with
          | ret r =>
            obtain ⟨rfl, h', tk, c', rfl, hS', hc', hk'⟩ := hr₂
            repeat (any_goals (first | assumption | wp_step))
            exact h _ _ _ hS' hc' hk'
          | _ => exact hr₂.elim
    | _ => exact hr.elim
end
section
variable {X : Cx}
/-- set(xs), xs a list of ints -/
def rSetOfL (K : PySem.W.Frag) (w : World) : List V → Hp → VK → Prop := fun xs H Q => ∃ (l : Addr) (ns : List Int), xs = [V.ref l] ∧ SqL K H l (ns.map V.int) ∧ ns.length < 64 ∧
  ∀ a c, H a = none → c ≤ ns.length → Q (.ref a) (upd H a (SetO w a (fun j => decide (j ∈ ns)) c))
theorem cr_setL (hc : X.calm = true) : CallR X (.type "set") (rSetOfL X.K X.w) := by
  intro pins s σ H xs us Q I r h
  obtain ⟨l, ns, rfl, hl, hf, q⟩ := h
  rw [Vals.ref1 r]
  obtain ⟨its, rv, pl, hz⟩ := I.list hl
  have hn : H s.heap.objs.size = none := I.hok.fresh (Nat.le_refl _)
  refine set_of_list (P := X.prog) (w := X.w) ns (I.ok.hd hc) pl.isList (by simpa using ints_of_vals rv) (by unfold scanBound; omega) fun h' tk c R g k => ?_
  exact ⟨.ref s.heap.objs.size, upd H s.heap.objs.size (SetO X.w s.heap.objs.size (fun j => decide (j ∈ ns)) c), I.laid (t' := tk) k (Nat.le_refl _) (setO_new R), rfl, q _ c hn g⟩
theorem mem_insI {x z : Int} : ∀ {l : List Int}, z ∈ insI x l ↔ z = x ∨ z ∈ l
  | [] => by simp [insI]
  | y :: l => by
    unfold insI
    split
    · simp
    · split
      · rename_i h; subst h; simp
      · rw [List.mem_cons, mem_insI, List.mem_cons]
        constructor <;> (intro h; rcases h with h | h | h <;> simp [h])
theorem up_insI {x : Int} : ∀ {l : List Int}, l.Pairwise (· < ·) → (insI x l).Pairwise (· < ·)
  | [], _ => by simp [insI]
  | y :: l, h => by
    have h1 := List.pairwise_cons.mp h
    unfold insI
    split
    · rename_i hx
      refine List.pairwise_cons.mpr ⟨fun z hz => ?_, h⟩
      rcases List.mem_cons.mp hz with rfl | hz
      · exact hx
      · have := h1.1 z hz; omega
    · split
      · exact h
      · refine List.pairwise_cons.mpr ⟨fun z hz => ?_, up_insI h1.2⟩
        rcases mem_insI.mp hz with rfl | hz
        · omega
        · exact h1.1 z hz
theorem mem_once {z : Int} : ∀ {l : List Int}, z ∈ once l ↔ z ∈ l
  | [] => Iff.rfl
  | x :: l => by
    show z ∈ insI x (once l) ↔ _
    rw [mem_insI, mem_once, List.mem_cons]
theorem up_once : ∀ (l : List Int), (once l).Pairwise (· < ·)
  | [] => .nil
  | x :: l => up_insI (up_once l)
theorem up_ext : ∀ {l m : List Int}, l.Pairwise (· < ·) → m.Pairwise (· < ·) → (∀ k, k ∈ l ↔ k ∈ m) → l = m
  | [], [], _, _, _ => rfl
  | [], b :: m, _, _, h => by have := (h b).mpr (by simp); cases this
  | a :: l, [], _, _, h => by have := (h a).mp (by simp); cases this
  | a :: l, b :: m, h1, h2, h => by
    have p1 := List.pairwise_cons.mp h1
    have p2 := List.pairwise_cons.mp h2
    have e : a = b := by
      rcases List.mem_cons.mp ((h a).mp (by simp)) with e | e
      · exact e
      · rcases List.mem_cons.mp ((h b).mpr (by simp)) with e2 | e2
        · exact e2.symm
        · have := p1.1 b e2
          have := p2.1 a e
          omega
    subst e
    rw [up_ext p1.2 p2.2 fun k => ?_]
    constructor
    · intro hk
      rcases List.mem_cons.mp ((h k).mp (by simp [hk])) with e | e
      · have := p1.1 k hk; omega
      · exact e
    · intro hk
      rcases List.mem_cons.mp ((h k).mpr (by simp [hk])) with e | e
      · have := p2.1 k hk; omega
      · exact e
end
end Ob

set_option Elab.async false
set_option linter.all false
set_option maxRecDepth 100000
set_option maxHeartbeats 1000000
/-! Ob: soundness of the evaluator. -/
namespace Ob
open PySem PySem.Spec PyProof.Rows L2
/-- where the program's own things stand -/
structure Gx where
  K : PySem.W.Frag
  fa : Nat → Addr
  ca : Nat → Addr
mutual
/-- data that never change, as they lie -/
inductive Dq (F : Hp) : V → PyData → Prop
  | non : Dq F .non .none
  | bl (b : Bool) : Dq F (.bl b) (.bool b)
  | int (i : Int) : Dq F (.int i) (.int i)
  | str (x : Str) : Dq F (.str x) (.str x)
  | lst {a : Addr} {xs : List V} {ds : List PyData} : F a = some (.lst xs) → DqAll F xs ds → Dq F (.ref a) (.list ds)
  | tup {a : Addr} {xs : List V} {ds : List PyData} : F a = some (.tup xs) → DqAll F xs ds → Dq F (.ref a) (.tuple ds)
inductive DqAll (F : Hp) : List V → List PyData → Prop
  | nil : DqAll F [] []
  | cons {v : V} {vs : List V} {d : PyData} {ds : List PyData} : Dq F v d → DqAll F vs ds → DqAll F (v :: vs) (d :: ds)
end
mutual
theorem dq_mono {F F' : Hp} (e : Same F F') : ∀ {v : V} {d : PyData}, Dq F v d → Dq F' v d
  | _, _, .non => .non
  | _, _, .bl b => .bl b
  | _, _, .int i => .int i
  | _, _, .str x => .str x
  | _, _, .lst h g => .lst (e _ _ h) (dqAll_mono e g)
  | _, _, .tup h g => .tup (e _ _ h) (dqAll_mono e g)
theorem dqAll_mono {F F' : Hp} (e : Same F F') : ∀ {vs : List V} {ds : List PyData}, DqAll F vs ds → DqAll F' vs ds
  | _, _, .nil => .nil
  | _, _, .cons h g => .cons (dq_mono e h) (dqAll_mono e g)
end
mutual
theorem Dq.dp {K : PySem.W.Frag} {F H : Hp} (e : Same F H) : ∀ {v : V} {d : PyData}, Dq F v d → Dp K H v d
  | _, _, .non => .non
  | _, _, .bl b => .bl b
  | _, _, .int i => .int i
  | _, _, .str x => .str x
  | _, _, .lst h g => .lst (.inl (.inl (e _ _ h))) (DqAll.dp e g)
  | _, _, .tup h g => .tup (.inl (.inl (e _ _ h))) (DqAll.dp e g)
theorem DqAll.dp {K : PySem.W.Frag} {F H : Hp} (e : Same F H) : ∀ {vs : List V} {ds : List PyData}, DqAll F vs ds → DpAll K H vs ds
  | _, _, .nil => .nil
  | _, _, .cons h g => .cons (Dq.dp e h) (DqAll.dp e g)
end
theorem DqAll.length {F : Hp} : ∀ {vs : List V} {ds : List PyData}, DqAll F vs ds → vs.length = ds.length
  | _, _, .nil => rfl
  | _, _, .cons _ g => by simp [DqAll.length g]
theorem DqAll.append {F : Hp} : ∀ {vs ws : List V} {ds es : List PyData}, DqAll F vs ds → DqAll F ws es → DqAll F (vs ++ ws) (ds ++ es)
  | _, _, _, _, .nil, g => g
  | _, _, _, _, .cons h t, g => .cons h (DqAll.append t g)
theorem DqAll.get {F : Hp} : ∀ {vs : List V} {ds : List PyData} {i : Nat} {d : PyData}, DqAll F vs ds → ds[i]? = some d → ∃ v, vs[i]? = some v ∧ Dq F v d
  | _, _, i, _, .nil, e => by simp at e
  | _, _, 0, _, .cons h _, e => by simp at e; subst e; exact ⟨_, rfl, h⟩
  | _, _, i + 1, _, .cons _ g, e => by simpa using DqAll.get g (by simpa using e)
theorem DqAll.get' {F : Hp} : ∀ {vs : List V} {ds : List PyData} {i : Nat} {v : V}, DqAll F vs ds → vs[i]? = some v → ∃ d, ds[i]? = some d ∧ Dq F v d
  | _, _, i, _, .nil, e => by simp at e
  | _, _, 0, _, .cons h _, e => by simp at e; subst e; exact ⟨_, rfl, h⟩
  | _, _, i + 1, _, .cons _ g, e => by simpa using DqAll.get' g (by simpa using e)
theorem DqAll.take {F : Hp} : ∀ {vs : List V} {ds : List PyData} (n : Nat), DqAll F vs ds → DqAll F (vs.take n) (ds.take n)
  | _, _, 0, _ => by simpa using DqAll.nil
  | _, _, n + 1, .nil => by simpa using DqAll.nil
  | _, _, n + 1, .cons h g => by simpa using DqAll.cons h (DqAll.take n g)
theorem DqAll.drop {F : Hp} : ∀ {vs : List V} {ds : List PyData} (n : Nat), DqAll F vs ds → DqAll F (vs.drop n) (ds.drop n)
  | _, _, 0, g => by simpa using g
  | _, _, n + 1, .nil => by simpa using DqAll.nil
  | _, _, n + 1, .cons h g => by simpa using DqAll.drop n g
theorem DqAll.set {F : Hp} {v : V} {d : PyData} (r : Dq F v d) : ∀ {vs : List V} {ds : List PyData} (i : Nat), DqAll F vs ds → DqAll F (vs.set i v) (ds.set i d)
  | _, _, _, .nil => by simpa using DqAll.nil
  | _, _, 0, .cons h g => by simpa using DqAll.cons r g
  | _, _, i + 1, .cons h g => by simpa using DqAll.cons h (DqAll.set r i g)
theorem DqAll.reverse {F : Hp} : ∀ {vs : List V} {ds : List PyData}, DqAll F vs ds → DqAll F vs.reverse ds.reverse
  | _, _, .nil => by simpa using DqAll.nil
  | _, _, .cons h g => by simpa using DqAll.append (DqAll.reverse g) (.cons h .nil)

/-- a value stands for v -/
def RV (G : Gx) (F : Hp) (α : List Addr) : D → V → Prop
  | .d x, v => Dq F v x
  | .own n, v => ∃ a, α[n]? = some a ∧ v = .ref a
  | .fn f, v => v = .ref (G.fa f)
  | .its _, _ => False
  | .scr xs, v => ∃ a vs, v = .ref a ∧ SqL G.K F a vs ∧ DqAll F vs xs
abbrev RVs (G : Gx) (F : Hp) (α : List Addr) : List D → List V → Prop := Paired (RV G F α)
theorem RV.mono {G : Gx} {F F' : Hp} {α : List Addr} (e : Same F F') : ∀ {d : D} {v : V}, RV G F α d v → RV G F' α d v
  | .d _, _, h => dq_mono e h
  | .own _, _, h => h
  | .fn _, _, h => h
  | .scr _, _, ⟨a, vs, q, h, g⟩ => ⟨a, vs, q, e.seq h, dqAll_mono e g⟩
theorem RV.grow {G : Gx} {F : Hp} {α α' : List Addr} (e : ∃ r, α' = α ++ r) : ∀ {d : D} {v : V}, RV G F α d v → RV G F α' d v
  | .d _, _, h => h
  | .own _, _, ⟨a, h, q⟩ => ⟨a, by
      obtain ⟨r, rfl⟩ := e
      rw [List.getElem?_append_left (List.getElem?_eq_some_iff.mp h).1]; exact h, q⟩
  | .fn _, _, h => h
  | .scr _, _, h => h
theorem RVs.mono {G : Gx} {F F' : Hp} {α : List Addr} (e : Same F F') : ∀ {ds : List D} {vs : List V}, RVs G F α ds vs → RVs G F' α ds vs
  | _, _, .nil => .nil
  | _, _, .cons h g => .cons (h.mono e) (RVs.mono e g)
theorem RVs.length {G : Gx} {F : Hp} {α : List Addr} {ds : List D} {vs : List V} (h : RVs G F α ds vs) : ds.length = vs.length := Paired.length h
abbrev KvOk {κ : Type} (G : Gx) (F : Hp) (ws : List (κ × V)) (kvs : List (κ × PyData)) : Prop := Paired (fun (w : κ × V) (k : κ × PyData) => w.1 = k.1 ∧ Dq F w.2 k.2) ws kvs
def MoOk (G : Gx) (F H : Hp) (a : Addr) : MO → Prop
  | .lst xs => ∃ vs, H a = some (.lst vs) ∧ DqAll F vs xs
  | .dK kvs => ∃ ws, H a = some (.dK ws) ∧ KvOk G F ws kvs
  | .dT kvs => ∃ ws, H a = some (.dT ws) ∧ KvOk G F ws kvs
  | .zL xs => ∃ o vs, H a = some (.frz o (.lst vs)) ∧ DqAll F vs xs
  | .zK kvs => ∃ o ws, H a = some (.frz o (.dK ws)) ∧ KvOk G F ws kvs
  | .zT kvs => ∃ o ws, H a = some (.frz o (.dT ws)) ∧ KvOk G F ws kvs
theorem KvOk.mono {κ : Type} {G : Gx} {F F' : Hp} (e : Same F F') {ws : List (κ × V)} {kvs : List (κ × PyData)} (h : KvOk G F ws kvs) : KvOk G F' ws kvs :=
  Paired.mapP h fun _ _ z => ⟨z.1, dq_mono e z.2⟩
theorem MoOk.mono {G : Gx} {F F' H H' : Hp} {a : Addr} (e : Same F F') (s : ∀ o, H a = some o → H' a = some o) : ∀ {m : MO}, MoOk G F H a m → MoOk G F' H' a m
  | .lst _, ⟨vs, h, g⟩ => ⟨vs, s _ h, dqAll_mono e g⟩
  | .dK _, ⟨vs, h, g⟩ => ⟨vs, s _ h, g.mono e⟩
  | .dT _, ⟨vs, h, g⟩ => ⟨vs, s _ h, g.mono e⟩
  | .zL _, ⟨o, vs, h, g⟩ => ⟨o, vs, s _ h, dqAll_mono e g⟩
  | .zK _, ⟨o, vs, h, g⟩ => ⟨o, vs, s _ h, g.mono e⟩
  | .zT _, ⟨o, vs, h, g⟩ => ⟨o, vs, s _ h, g.mono e⟩
theorem MoOk.there {G : Gx} {F H : Hp} {a : Addr} : ∀ {m : MO}, MoOk G F H a m → ∃ o, H a = some o
  | .lst _, ⟨vs, h, g⟩ => ⟨_, h⟩
  | .dK _, ⟨vs, h, g⟩ => ⟨_, h⟩
  | .dT _, ⟨vs, h, g⟩ => ⟨_, h⟩
  | .zL _, ⟨o, vs, h, g⟩ => ⟨_, h⟩
  | .zK _, ⟨o, vs, h, g⟩ => ⟨_, h⟩
  | .zT _, ⟨o, vs, h, g⟩ => ⟨_, h⟩
/-- F: what never changes; α: where the objects that may be written stand -/
structure Rp (G : Gx) (F : Hp) (α : List Addr) (M : Ms) (H : Hp) : Prop where
  sub : Same F H
  len : α.length = M.length
  nd : α.Nodup
  off : ∀ a ∈ α, F a = none
  ok : ∀ (n : Nat) a m, α[n]? = some a → M[n]? = some m → MoOk G F H a m
theorem Rp.there {G : Gx} {F H : Hp} {α : List Addr} {M : Ms} (R : Rp G F α M H) {a : Addr} (h : a ∈ α) : ∃ o, H a = some o := by
  obtain ⟨n, hn, e⟩ := List.mem_iff_getElem.mp h
  have h1 : α[n]? = some a := by rw [List.getElem?_eq_getElem hn, e]
  have h2 : n < M.length := by rw [← R.len]; exact hn
  exact (R.ok n a _ h1 (List.getElem?_eq_getElem h2)).there
theorem Rp.notin {G : Gx} {F H : Hp} {α : List Addr} {M : Ms} (R : Rp G F α M H) {p : Addr} (h : H p = none) : p ∉ α := fun q => by
  obtain ⟨o, e⟩ := R.there q
  rw [h] at e; cases e
theorem Rp.free {G : Gx} {F H : Hp} {α : List Addr} {M : Ms} (R : Rp G F α M H) {p : Addr} (h : H p = none) : F p = none := R.sub.free h
/-- what is tracked and not to be written stays, no list of it is taken for what never changes; what is locked stays -/
def nt : HO → Bool
  | .tup _ => false
  | _ => true
structure Stp (F F' : Hp) (α α' : List Addr) (H H' : Hp) : Prop where
  un : ∀ b o, H b = some o → b ∉ α → H' b = some o ∧ b ∉ α'
  ff : ∀ b o, H b = some o → nt o = true → b ∉ α → F' b = F b
  fz : ∀ b o u, H b = some (.frz o u) → H' b = some (.frz o u)
theorem Stp.refl (F : Hp) (α : List Addr) (H : Hp) : Stp F F α α H H := ⟨fun _ _ h n => ⟨h, n⟩, fun _ _ _ _ _ => rfl, fun _ _ _ h => h⟩
theorem Stp.trans {F F1 F2 : Hp} {α β γ : List Addr} {H H1 H2 : Hp} (a : Stp F F1 α β H H1) (b : Stp F1 F2 β γ H1 H2) : Stp F F2 α γ H H2 :=
  ⟨fun c o h n => b.un c o (a.un c o h n).1 (a.un c o h n).2, fun c xs h t n => (b.ff c xs (a.un c _ h n).1 t (a.un c _ h n).2).trans (a.ff c xs h t n), fun c o u h => b.fz c o u (a.fz c o u h)⟩
theorem Stp.updH {F : Hp} {α : List Addr} {H : Hp} {p : Addr} {o : HO} (h : H p = none) : Stp F F α α H (upd H p o) :=
  ⟨fun b u e n => ⟨by rw [upd_ne (ne_of_none e h)]; exact e, n⟩, fun _ _ _ _ _ => rfl, fun b u v e => by rw [upd_ne (ne_of_none e h)]; exact e⟩
theorem Stp.upd {F : Hp} {α : List Addr} {H : Hp} {p : Addr} {o u : HO} (h : H p = none) : Stp F (upd F p u) α α H (upd H p o) :=
  ⟨fun b u e n => ⟨by rw [upd_ne (ne_of_none e h)]; exact e, n⟩, fun b _ e _ _ => by rw [upd_ne (ne_of_none e h)], fun b u v e => by rw [upd_ne (ne_of_none e h)]; exact e⟩
theorem same_upd {F : Hp} {p : Addr} {o : HO} (h : F p = none) : Same F (upd F p o) := fun b u e => by rw [upd_ne (ne_of_none e h)]; exact e
/-- a new object beside -/
theorem Rp.newH {G : Gx} {F H : Hp} {α : List Addr} {M : Ms} (R : Rp G F α M H) {p : Addr} {o : HO} (h : H p = none) : Rp G F α M (upd H p o) :=
  ⟨fun b u e => by rw [upd_ne (ne_of_none (R.sub b u e) h)]; exact R.sub b u e, R.len, R.nd, R.off, fun n a m h1 h2 => (R.ok n a m h1 h2).mono (Same.refl _) fun u e => by rw [upd_ne (ne_of_none e h)]; exact e⟩
theorem Rp.new {G : Gx} {F H : Hp} {α : List Addr} {M : Ms} (R : Rp G F α M H) {p : Addr} {o : HO} (h : H p = none) : Rp G (upd F p o) α M (upd H p o) := by
  have f := R.free h
  have R1 := R.newH (o := o) h
  refine ⟨fun b u e => ?_, R.len, R.nd, fun a ha => ?_, fun n a m h1 h2 => (R1.ok n a m h1 h2).mono (same_upd f) fun u e => e⟩
  · by_cases hb : b = p
    · subst hb; rw [upd_same] at e ⊢; exact e
    · rw [upd_ne hb] at e; exact R1.sub b u e
  · have : a ≠ p := fun q => R.notin h (q ▸ ha)
    rw [upd_ne this]; exact R.off a ha
/-- an exception's wish -/
abbrev Xp := Xc → Hp → List Addr → Hp → Prop
def exP (G : Gx) (E : XK) : Xp := fun x F α H => ∀ F' H', Same F F' → Rp G F' α x.M H' → Stp F F' α α H H' → E (.ref (G.ca x.cls)) none H'
/-- what is wanted of a result; m: the value is a new list -/
def WpE (G : Gx) (E : XK) (m : Bool) (F : Hp) (α : List Addr) (H : Hp) (r : Rs D) (Q : VK) : Prop := match r with
  | none => False
  | some (.error x) => exP G E x F α H
  | some (.ok (d, M')) => match m with
    | false => ∀ F' v H', Same F F' → Rp G F' α M' H' → Stp F F' α α H H' → RV G F' α d v → Q v H'
    | true => ∃ xs, d = .d (.list xs) ∧ ∀ F' p vs H', Same F F' → Rp G F' α M' H' → Stp F F' α α H H' → H p = none → H' p = some (.lst vs) → F' p = none → DqAll F' vs xs → Q (.ref p) H'
/-- .. of several -/
def WpA (G : Gx) (E : XK) (F : Hp) (α : List Addr) (H : Hp) (r : Rs (List D)) (Q : List V → Hp → Prop) : Prop := match r with
  | none => False
  | some (.error x) => exP G E x F α H
  | some (.ok (ds, M')) => ∀ F' vs H', Same F F' → Rp G F' α M' H' → Stp F F' α α H H' → RVs G F' α ds vs → Q vs H'
theorem exP.adv {G : Gx} {E : XK} {x : Xc} {F F1 H H1 : Hp} {α : List Addr} (e : Same F F1) (s : Stp F F1 α α H H1) (h : exP G E x F α H) : exP G E x F1 α H1 :=
  fun F' H' e' R s' => h F' H' (e.trans e') R (s.trans s')
theorem WpE.adv {G : Gx} {E : XK} {m : Bool} {F F1 H H1 : Hp} {α : List Addr} {M1 : Ms} {r : Rs D} {Q : VK} (e : Same F F1) (s : Stp F F1 α α H H1) (R1 : Rp G F1 α M1 H1) (h : WpE G E m F α H r Q) : WpE G E m F1 α H1 r Q := by
  unfold WpE at h ⊢
  cases r with
  | none => exact h
  | some q =>
    cases q with
    | error x => exact exP.adv e s h
    | ok q =>
      obtain ⟨d, M'⟩ := q
      cases m with
      | false => exact fun F' v H' e' R s' => h F' v H' (e.trans e') R (s.trans s')
      | true =>
        obtain ⟨xs, hd, h⟩ := h
        refine ⟨xs, hd, fun F' p vs H' e' R s' hp => h F' p vs H' (e.trans e') R (s.trans s') ?_⟩
        cases q : H p with
        | none => rfl
        | some o =>
          by_cases ha : p ∈ α
          · exact absurd ha (R1.notin hp)
          · have := (s.un p o q ha).1
            rw [hp] at this; cases this
/-- a value has come: what follows -/
def Nxt (G : Gx) (E : XK) (m : Bool) (α : List Addr) (k : D → Ms → Rs D) (d : D) (M1 : Ms) (F : Hp) (Q : VK) : VK := fun v H1 => ∃ F1, Same F F1 ∧ Rp G F1 α M1 H1 ∧ RV G F1 α d v ∧ WpE G E m F1 α H1 (k d M1) Q
/-- the first part of two -/
theorem WpE.bind {G : Gx} {E : XK} {m : Bool} {F H : Hp} {α : List Addr} {r : Rs D} {k : D → Ms → Rs D} {Q : VK} (h : WpE G E m F α H (r.bind k) Q) :
    WpE G E false F α H r (fun v H1 => ∃ d M1 F1, Same F F1 ∧ Stp F F1 α α H H1 ∧ Rp G F1 α M1 H1 ∧ RV G F1 α d v ∧ WpE G E m F1 α H1 (k d M1) Q) := by
  cases r with
  | none => exact h
  | some q =>
    cases q with
    | error x => exact h
    | ok q =>
      obtain ⟨d, M1⟩ := q
      exact fun F1 v H1 e R s rv => ⟨d, M1, F1, e, s, R, rv, WpE.adv e s R h⟩
theorem WpE.bindA {G : Gx} {E : XK} {m : Bool} {F H : Hp} {α : List Addr} {r : Rs (List D)} {k : List D → Ms → Rs D} {Q : VK} (h : WpE G E m F α H (r.bind k) Q) :
    WpA G E F α H r (fun vs H1 => ∃ ds M1 F1, Same F F1 ∧ Stp F F1 α α H H1 ∧ Rp G F1 α M1 H1 ∧ RVs G F1 α ds vs ∧ WpE G E m F1 α H1 (k ds M1) Q) := by
  cases r with
  | none => exact h
  | some q =>
    cases q with
    | error x => exact h
    | ok q =>
      obtain ⟨d, M1⟩ := q
      exact fun F1 v H1 e R s rv => ⟨d, M1, F1, e, s, R, rv, WpE.adv e s R h⟩
/-- a result that has come -/
theorem WpE.done {G : Gx} {E : XK} {F H : Hp} {α : List Addr} {M : Ms} {d : D} {v : V} {Q : VK} (h : WpE G E false F α H (Rs.ok d M) Q) (R : Rp G F α M H) (r : RV G F α d v) : Q v H :=
  h F v H (Same.refl _) R (Stp.refl _ _ _) r
/-- .. a new list, whatever is asked of it -/
theorem WpE.list {G : Gx} {E : XK} {m : Bool} {F H : Hp} {α : List Addr} {M : Ms} {xs : List PyData} {vs : List V} {p : Addr} {Q : VK} (h : WpE G E m F α H (Rs.ok (.d (.list xs)) M) Q) (R : Rp G F α M H)
    (hp : H p = none) (r : DqAll F vs xs) : Q (.ref p) (upd H p (.lst vs)) := by
  cases m with
  | false =>
    refine h (upd F p (.lst vs)) (.ref p) _ (same_upd (R.free hp)) (R.new hp) (Stp.upd hp) ?_
    exact .lst upd_same (dqAll_mono (same_upd (R.free hp)) r)
  | true =>
    obtain ⟨ys, hd, h⟩ := h
    cases hd
    exact h F p vs _ (Same.refl _) (R.newH hp) (Stp.updH hp) hp upd_same (R.free hp) r
/-- .. a new tuple -/
theorem WpE.tup {G : Gx} {E : XK} {F H : Hp} {α : List Addr} {M : Ms} {xs : List PyData} {vs : List V} {p : Addr} {Q : VK} (h : WpE G E false F α H (Rs.ok (.d (.tuple xs)) M) Q) (R : Rp G F α M H)
    (hp : H p = none) (r : DqAll F vs xs) : Q (.ref p) (upd H p (.tup vs)) := by
  refine h (upd F p (.tup vs)) (.ref p) _ (same_upd (R.free hp)) (R.new hp) (Stp.upd hp) ?_
  exact .tup upd_same (dqAll_mono (same_upd (R.free hp)) r)

/-! ### what shows of a value -/
theorem Rp.view {G : Gx} {F H : Hp} {α : List Addr} {M : Ms} (R : Rp G F α M H) {d : D} {v : V} {x : PyData} (r : RV G F α d v) (h : view M d = some x) :
    (Dq F v x ∧ d = .d x) ∨ ∃ a vs xs, v = .ref a ∧ x = .list xs ∧ Rd H a (.lst vs) ∧ DqAll F vs xs := by
  cases d with
  | d y =>
    have e : y = x := by simpa [Ob.view] using h
    subst e
    exact .inl ⟨r, rfl⟩
  | own n =>
    obtain ⟨a, ha, rfl⟩ := r
    have h : (match M[n]? with
      | some (.lst xs) => some (PyData.list xs)
      | some (.zL xs) => some (.list xs)
      | _ => none) = some x := h
    cases q : M[n]? with
    | none => simp [q] at h
    | some m =>
      have z := R.ok n a m ha q
      rw [q] at h
      cases m with
      | lst xs => cases h; obtain ⟨vs, e, g⟩ := z; exact .inr ⟨a, vs, xs, rfl, rfl, .inl e, g⟩
      | zL xs => cases h; obtain ⟨o, vs, e, g⟩ := z; exact .inr ⟨a, vs, xs, rfl, rfl, .inr ⟨o, e⟩, g⟩
      | _ => cases h
  | fn f => cases h
  | its xs => cases h
  | scr xs => cases h
theorem Rp.viewDp {G : Gx} {K : PySem.W.Frag} {F H : Hp} {α : List Addr} {M : Ms} (R : Rp G F α M H) {d : D} {v : V} {x : PyData} (r : RV G F α d v) (h : Ob.view M d = some x) : Dp K H v x := by
  rcases R.view r h with ⟨q, _⟩ | ⟨a, vs, xs, rfl, rfl, h1, h2⟩
  · exact q.dp R.sub
  · exact .lst (.inl h1) (DqAll.dp R.sub h2)
theorem Rp.viewL {G : Gx} {F H : Hp} {α : List Addr} {M : Ms} (R : Rp G F α M H) {d : D} {v : V} {xs : List PyData} (r : RV G F α d v) (h : Ob.view M d = some (.list xs)) : ∃ a vs, v = .ref a ∧ Rd H a (.lst vs) ∧ DqAll F vs xs := by
  rcases R.view r h with ⟨q, _⟩ | ⟨a, vs, ys, rfl, e, h1, h2⟩
  · cases q with
    | lst h g => exact ⟨_, _, rfl, .inl (R.sub _ _ h), g⟩
  · cases e
    exact ⟨a, vs, rfl, h1, h2⟩
theorem Rp.viewT {G : Gx} {F H : Hp} {α : List Addr} {M : Ms} (R : Rp G F α M H) {d : D} {v : V} {xs : List PyData} (r : RV G F α d v) (h : Ob.view M d = some (.tuple xs)) : ∃ a vs, v = .ref a ∧ F a = some (.tup vs) ∧ H a = some (.tup vs) ∧ DqAll F vs xs := by
  rcases R.view r h with ⟨q, _⟩ | ⟨a, vs, ys, rfl, e, h1, h2⟩
  · cases q with
    | tup h g => exact ⟨_, _, rfl, h, R.sub _ _ h, g⟩
  · cases e
/-- a flat value -/
theorem Rp.viewI {G : Gx} {F H : Hp} {α : List Addr} {M : Ms} (R : Rp G F α M H) {d : D} {v : V} {i : Int} (r : RV G F α d v) (h : Ob.view M d = some (.int i)) : v = .int i := by
  rcases R.view r h with ⟨q, _⟩ | ⟨a, vs, ys, rfl, e, h1, h2⟩
  · cases q; rfl
  · cases e
theorem Rp.viewS {G : Gx} {F H : Hp} {α : List Addr} {M : Ms} (R : Rp G F α M H) {d : D} {v : V} {i : Str} (r : RV G F α d v) (h : Ob.view M d = some (.str i)) : v = .str i := by
  rcases R.view r h with ⟨q, _⟩ | ⟨a, vs, ys, rfl, e, h1, h2⟩
  · cases q; rfl
  · cases e
theorem Rp.viewB {G : Gx} {F H : Hp} {α : List Addr} {M : Ms} (R : Rp G F α M H) {d : D} {v : V} {i : Bool} (r : RV G F α d v) (h : Ob.view M d = some (.bool i)) : v = .bl i := by
  rcases R.view r h with ⟨q, _⟩ | ⟨a, vs, ys, rfl, e, h1, h2⟩
  · cases q; rfl
  · cases e
/-- slots -/
structure Sl (G : Gx) (F : Hp) (α : List Addr) (ρ : Rho) (σ : L2.St) : Prop where
  len : ρ.length = σ.length
  ok : ∀ (i : Nat) d, ρ[i]? = some (some d) → ∃ v, σ[i]? = some (some v) ∧ RV G F α d v
theorem Sl.mono {G : Gx} {F F' : Hp} {α : List Addr} {ρ : Rho} {σ : L2.St} (e : Same F F') (h : Sl G F α ρ σ) : Sl G F' α ρ σ :=
  ⟨h.len, fun i d q => let ⟨v, h1, h2⟩ := h.ok i d q; ⟨v, h1, h2.mono e⟩⟩
theorem Sl.grow {G : Gx} {F : Hp} {α α' : List Addr} {ρ : Rho} {σ : L2.St} (e : ∃ r, α' = α ++ r) (h : Sl G F α ρ σ) : Sl G F α' ρ σ :=
  ⟨h.len, fun i d q => let ⟨v, h1, h2⟩ := h.ok i d q; ⟨v, h1, h2.grow e⟩⟩
theorem Sl.set {G : Gx} {F : Hp} {α : List Addr} {ρ : Rho} {σ : L2.St} {i : Nat} {d : D} {v : V} (h : Sl G F α ρ σ) (r : RV G F α d v) : Sl G F α (ρ.set i (some d)) (σ.set i (some v)) := by
  refine ⟨by simp [h.len], fun j e q => ?_⟩
  by_cases hj : i = j
  · subst hj
    by_cases hi : i < ρ.length
    · rw [List.getElem?_set_self hi] at q
      cases q
      exact ⟨v, List.getElem?_set_self (by rw [← h.len]; exact hi), r⟩
    · rw [List.getElem?_eq_none (by simpa using hi)] at q; cases q
  · rw [List.getElem?_set_ne hj] at q ⊢
    exact h.ok j e q
theorem Sl.forget {G : Gx} {F : Hp} {α : List Addr} {ρ : Rho} {σ : L2.St} {i : Nat} (h : Sl G F α ρ σ) : Sl G F α (ρ.set i none) (σ.set i none) := by
  refine ⟨by simp [h.len], fun j e q => ?_⟩
  by_cases hj : i = j
  · subst hj
    by_cases hi : i < ρ.length
    · rw [List.getElem?_set_self hi] at q
      cases q
    · rw [List.getElem?_eq_none (by simpa using hi)] at q; cases q
  · rw [List.getElem?_set_ne hj] at q ⊢
    exact h.ok j e q
theorem Sl.wipe {G : Gx} {F : Hp} {α : List Addr} {ρ : Rho} {σ : L2.St} (h : Sl G F α ρ σ) : ∀ vs : List Nat, Sl G F α (wipeR ρ vs) (wipe σ vs)
  | [] => h
  | v :: vs => (Sl.wipe h vs).forget
theorem Sl.getD {G : Gx} {F : Hp} {α : List Addr} {ρ : Rho} {σ : L2.St} {i : Nat} {d : D} (h : Sl G F α ρ σ) (e : ρ.getD i none = some d) : ∃ v, σ[i]? = some (some v) ∧ RV G F α d v := by
  refine h.ok i d ?_
  rw [List.getD_eq_getElem?_getD] at e
  cases q : ρ[i]? with
  | none => rw [q] at e; cases e
  | some o => rw [q] at e; simp at e; rw [e]
/-- the reading of an expression: the evaluator's -/
def tev (G : Gx) (W : XK) (call : Nat → List D → Ms → Rs D) (m : Bool) (e : E) : TE := fun σ H Q => ∃ F α ρ M, Rp G F α M H ∧ Sl G F α ρ σ ∧ WpE G W m F α H (ev call e ρ M) Q
def tevA (G : Gx) (W : XK) (call : Nat → List D → Ms → Rs D) (es : Es) : TA := fun σ H Q => ∃ F α ρ M, Rp G F α M H ∧ Sl G F α ρ σ ∧ WpA G W F α H (evs call es ρ M) Q
end Ob

set_option Elab.async false
set_option linter.all false
set_option maxRecDepth 100000
set_option maxHeartbeats 4000000
/-! defs that are called while no repr is under way: what repr(..) of a list or a tuple wants to know -/
namespace Ob
open PySem PySem.Spec PyProof.Rows L2
/-- as L2's promise of a def, but for surroundings without guards -/
structure FnG (P : Program) (w : World) (K : PySem.W.Frag) (mg : Str → Option Value) (base : Heap) (Cx : CXT) (k : Nat) (f : Addr) (fd : FuncData) (ps : List Str) (sp : Sp) : Prop where
  len : ∀ vs H Q E, sp vs H Q E → vs.length = ps.length
  run : ∀ (A : Around) (st : List Env) (s : Shared) (H : Hp) (us : List Value) (vs : List V) (Q : VK) (E : XK), A.guards = some [] → Room k A → Env0 P w K mg base A st s H → BindsTo s fd ⟨us, []⟩ (ps.zip us) → Vals vs us → sp vs H Q E →
    codeAny (model P w) A (.call (.ref f) ⟨us, []⟩) (CR Cx st P w H s Q E) s
theorem FnG.imp {P : Program} {w : World} {K : PySem.W.Frag} {mg : Str → Option Value} {base : Heap} {Cx : CXT} {k : Nat} {f : Addr} {fd : FuncData} {ps : List Str} {sp sp' : Sp} (F : FnG P w K mg base Cx k f fd ps sp)
    (h : ∀ vs H Q E, sp' vs H Q E → sp vs H Q E) : FnG P w K mg base Cx k f fd ps sp' where
  len vs H Q E q := F.len vs H Q E (h _ _ _ _ q)
  run A st s H us vs Q E g r e b v q := F.run A st s H us vs Q E g r e b v (h _ _ _ _ q)
section
variable {X : Cx} {Cx' : CXT} {k : Nat} {f : Addr} {fd : FuncData} {ps : List Str} {sp : Sp} {E : XK} {x : Str} {p pos : Pos} {e : Expr} {es : List Expr} {t : TA}
/-- such a def, called from a body that is itself without guards -/
theorem FnG.go (F : FnG X.prog X.w X.K X.mg X.base Cx' k f fd ps sp) (g : X.A.guards = some []) (hr : Room k X.A) (hb : Binds X.K fd ps []) (hx : Passes Cx' X E) {pins : List (Addr × Obj)} {σ : L2.St} {H : Hp} {s : Shared} {Q : VK} {us : List Value} {vs : List V}
    (I : Inv X pins σ H s) (r : Vals vs us) (q : sp vs H Q E) : wpAny (model X.prog X.w) X.A (PySem.call (.ref f) us) (EP X pins σ Q) X.xe s := by
  have hl : us.length = ps.length := r.length ▸ F.len _ _ _ _ q
  have b := hb s us I.kIn (by rw [List.append_nil]; exact hl)
  rw [List.append_nil] at b
  refine wpAny_call (codeAny_mono (F.run X.A X.stack s H us vs Q E g hr I.env0 b r q) ?_)
  intro o s' z
  match o, z with
  | .error e, z => exact hx pins σ H s e s' I z
  | .ok (.ret u), z => exact I.after z
  | .ok .next, z => exact z.elim
  | .ok .brk, z => exact z.elim
  | .ok .cont, z => exact z.elim
theorem pe_callG (F : FnG X.prog X.w X.K X.mg X.base Cx' k f fd ps sp) (g : X.A.guards = some []) (hr : Room k X.A) (hg : Gl X x) (hm : X.mg x = some (.ref f)) (hk : PySem.W.keepIn X.K (.ref f) = true) (hb : Binds X.K fd ps []) (hx : Passes Cx' X E)
    (ha : PA X (e :: es) t) (hd : (x == ("__debug__" : Str)) = false) (he : starEach (e :: es) X.env = (false, eval e X.env) :: starEach es X.env) (hp : (backTo pos (starEach es X.env)).any (·.1) = false) :
    PE X (.Call (.Name x p) (e :: es) [] pos) (tCall sp [] E t) := by
  constructor
  intro pins s σ H Q I h
  refine wpAny_Call_Name_kw (ld_glob I hg hm (hd := hd) (PySem.W.callWith_K (h₀ := X.base) (he := he) (hplain := hp) I.ok.mod.kin hk (thn (ha.run pos pins s σ H _ I h) ?_)))
  rintro us s1 ⟨vs, H1, I1, r, q⟩
  rw [List.append_nil] at q
  exact ⟨I1.kIn, F.go g hr hb hx I1 r q⟩
theorem pe_callG0 (F : FnG X.prog X.w X.K X.mg X.base Cx' k f fd ps sp) (g : X.A.guards = some []) (hr : Room k X.A) (hg : Gl X x) (hm : X.mg x = some (.ref f)) (hk : PySem.W.keepIn X.K (.ref f) = true) (hb : Binds X.K fd ps []) (hx : Passes Cx' X E)
    (hd : (x == ("__debug__" : Str)) = false) : PE X (.Call (.Name x p) [] [] pos) (tCall sp [] E tNil) := by
  constructor
  intro pins s σ H Q I h
  exact wpAny_Call_Name_kw (ld_glob I hg hm (hd := hd) (PySem.W.callWith_K0 I.kIn hk (F.go g hr hb hx (us := []) (vs := []) I .nil h)))
end
/-- what a body leaves behind, as its caller is promised it -/
theorem left_ok {CX : CXT} {P : Program} {w : World} {K : PySem.W.Frag} {mg : Str → Option Value} {base : Heap} {N : List Str} {qual : Str} {scope : Scope} {f : Addr} {cd : Value} {A : Around} {st : List Env} {s s' : Shared} {H H' : Hp} {Q : VK} {E : XK} {σ : L2.St} {v : V} {u : Value}
    (J : Inv (cxOf CX P w K mg base N qual scope f cd A st s H E) [] σ H' s') (r : RelV v u) (q : Q v H') : CE st P w H s Q u s' := ⟨v, H', J.os, J.bare, J.base, J.hok, r, q⟩
/-- a def of the text, by its body, in surroundings without guards -/
theorem fnG_of {CX : CXT} {P : Program} {w : World} {K : PySem.W.Frag} {mg : Str → Option Value} {base : Heap} {k : Nat} {f : Addr} {x qual : Str} {st : Stmt} {fd : FuncData} {N ps : List Str} {sp : Sp} (F : Fun K x qual st f fd) (S : FnScope N ps (defScope st))
    (len : ∀ vs H Q E, sp vs H Q E → vs.length = ps.length)
    (hbody : ∀ (cdv : Value) (A : Around) (outer : List Env) (s : Shared) (H : Hp) (vs : List V) (Q : VK) (E : XK), A.guards = some [] → Room k (A.deeper (envOfC qual (defScope st) s.heap.objs.size f cdv)) → sp vs H Q E →
      ∃ t, PSs (cxOf CX P w K mg base N qual (defScope st) f cdv A outer s H E) (defBody st) t ∧ t { nx := fun _ H' => Q .non H', rt := Q } (start N vs) H) : FnG P w K mg base CX (k + 1) f fd ps sp := by
  obtain ⟨oc, od, kV, doc, pm, an, cdv, ct, osl, rfl, lk, hcd⟩ := F.ex
  refine ⟨len, ?_⟩
  intro A outer s H us vs Q E g hr e0 hb r q
  have inK : K.In s.heap := e0.mod.kin.keeps fun b o z => (e0.bs b o z).1
  obtain ⟨t, ht, hq⟩ := hbody cdv A outer s H vs Q E g (hr.deeper _) q
  refine codeAny_call_function hr.depth (inK _ _ lk) rfl S.co S.gen rfl (PySem.W.codeRec_of inK hcd) (hb _ _ _ _ (wpAny_newFunctionEnv_cells S.kind ?_ ?_))
  · rintro ⟨n, v⟩ hy
    exact (S.par n (List.of_mem_zip hy).1).imp id fun z => ⟨z, PySem.W.cellsFrom_some _ _ _ (.inl z)⟩
  · rintro env rfl s1 z
    refine ⟨(e0.mod.nolimit.keeps fun b o z => (e0.bs b o z).1).keeps z.toInCall.keep, codeAny_func ?_⟩
    refine wpAny_mono (ht.run [] s1 _ H _ (inv_start S hr.hd e0 (len _ _ _ _ q) r z) hq) ?_ fun _ _ z => z
    intro fl s' z
    match fl, z with
    | .ret u, ⟨v, σ', H', J, rv, q⟩ => exact left_ok J rv q
    | .next, ⟨σ', H', J, q⟩ => exact left_ok (v := .non) (u := .none) J rfl q
    | .brk, ⟨_, _, _, q⟩ => exact q.elim
    | .cont, ⟨_, _, _, q⟩ => exact q.elim
/-- the script, and nothing else, stands in the abstract heap -/
theorem script_hp {P : Program} {w : World} {K : PySem.W.Frag} {a : Addr} {s : Shared} {vs : List Value} {ns : List Int} (KX : K.In s.heap) (ha : s.heap.get? a = some { cls := .type "list", data := .seq vs.toArray }) (hi : IntsAre vs ns) (hl : ns.length ≤ sizeLine) :
    ∃ H : Hp, Only H ∧ SqL K H a (ns.map V.int) ∧ HOk P w H s.heap ∧ (∀ b, H b ≠ none → b = a) ∧ (H a ≠ none → K.lookup a = none) := by
  have rv := vals_ints hi
  have ln := hi.length
  cases hk : K.lookup a with
  | some o =>
    have e := (KX a o hk).symm.trans ha
    cases e
    exact ⟨fun _ => none, fun _ => .inl rfl, .inr ⟨_, vs.toArray, _, hk, rfl, rfl, rfl, by rw [List.size_toArray, ln]; exact hl, by simpa using rv⟩, fun _ _ z => (nomatch (show (none : Option HO) = some _ from z)), fun _ z => (z rfl).elim, fun z => (z rfl).elim⟩
  | none =>
    let u : HO := .frz { cls := .type "list", data := .seq vs.toArray } (.lst (ns.map V.int))
    have at_a : (fun b => if b = a then some u else none : Hp) a = some u := if_pos rfl
    have off : ∀ b, b ≠ a → (fun b => if b = a then some u else none : Hp) b = none := fun b z => if_neg z
    refine ⟨fun b => if b = a then some u else none, fun b => ?_, .inl (.inr ⟨_, at_a⟩), fun b o z => ?_, fun b z => Classical.byContradiction fun q => z (off b q), fun _ => rfl⟩
    · rcases Classical.em (b = a) with rfl | q
      · exact .inr ⟨_, _, at_a⟩
      · exact .inl (off b q)
    · rcases Classical.em (b = a) with rfl | q
      · cases at_a.symm.trans z
        exact ⟨ha, by rw [List.length_map]; exact hl, vs, _, rv, ha⟩
      · cases (off b q).symm.trans z
theorem law_callG {P : Program} {w : World} {K : PySem.W.Frag} {mg mb : Str → Option Value} {Cx : CXT} {k : Nat} {fa a : Addr} {fd : FuncData} {x : Str} {sp : Sp} {s : Shared} {vs : List Value} {ns : List Int}
    (KX : K.In s.heap) (hns : s.heap.Ns mainGlobals mg) (hb : s.heap.Ns builtinsNs mb) (hbb : ∀ x : Str, x ≠ "__name__" → mb x = bootBuiltins x) (hlim : s.heap.NoLimit) (hg : s.gens = #[])
    (ha : s.heap.get? a = some { cls := .type "list", data := .seq vs.toArray }) (hi : IntsAre vs ns) (hl : ns.length ≤ sizeLine) (hr : Room k callerA)
    (F : ∀ base : Heap, K.In base → base.Ns mainGlobals mg → FnG P w K mg base Cx k fa fd [x] sp) (bind : ∀ (s : Shared) (u : Value), BindsTo s fd ⟨[u], []⟩ [(x, u)])
    (hsp : ∀ H : Hp, Only H → SqL K H a (ns.map V.int) → sp [.ref a] H (fun v _ => v = .bl true) fun _ _ _ => False) (hCX : ∀ H e s', Cx [] H s (fun _ _ _ => False) e s' → False) :
    codeAny (model P w) callerA (.call (.ref fa) ⟨[.ref a], []⟩) (fun r s' => r = .ok (.ret (.bool true)) ∧ OldK s.heap s'.heap ∧ s'.os = s.os ∧ AllBare s'.gens) s := by
  obtain ⟨H, hO, hS, hok, hA, hK⟩ := script_hp (P := P) (w := w) KX ha hi hl
  -- what is not the script is not told of
  have away : ∀ {b : Addr}, b ≠ a → H b = none := fun {b} z => Classical.byContradiction fun q => z (hA b q)
  have nota : ∀ {b : Addr} {o : Obj} {es : Array DictEntry} {ep : Nat}, s.heap.get? b = some o → o.data = .dict es ep → b ≠ a := by
    rintro b o es ep e d rfl
    cases e.symm.trans ha
    cases d
  have nsK : ∀ {b : Addr} {m : Str → Option Value}, s.heap.Ns b m → (hidT s.heap H).Ns b m := by
    rintro b m ⟨o, es, ep, e, d, r⟩
    exact ⟨o, es, ep, hidT_get e (away (nota e d)), d, r⟩
  have inK : K.In (hidT s.heap H) := by
    intro b o e
    refine hidT_get (KX b o e) (Classical.byContradiction fun q => ?_)
    obtain rfl := hA b q
    rw [hK q] at e
    cases e
  obtain ⟨mc, h1, h2⟩ := hlim
  have e0 : Env0 P w K mg (hidT s.heap H) callerA [] s H := ⟨rfl, ⟨inK, nsK hns, ⟨mb, nsK hb, hbb⟩, mc, nsK h1, h2⟩, fun b o e => of_hidT e, Nat.le_of_eq (hidT_size _ _), trivial, (fun b z => nomatch (show b ∈ ([] : List Addr) from z)), hok, .of_eq hg⟩
  refine codeAny_mono ((F _ inK (nsK hns)).run callerA [] s H [.ref a] [.ref a] _ _ rfl hr e0 (bind s (.ref a)) (.cons rfl .nil) (hsp H hO hS)) ?_
  intro r s' z
  match r, z with
  | .error e, z => exact (hCX H e s' z).elim
  | .ok .next, z => exact z.elim
  | .ok .brk, z => exact z.elim
  | .ok .cont, z => exact z.elim
  | .ok (.ret u), ⟨v, H', os, bare, un, hok', r', q⟩ =>
    obtain rfl : v = .bl true := q
    obtain rfl : u = Value.bool true := r'
    refine ⟨rfl, OldK.of_keep fun b o e => ?_, os, bare⟩
    cases q : H b with
    | none => exact un.keep b o e q (by intro z; cases z) (by intro z; cases z)
    | some u =>
      rcases hO b with z | ⟨ob, xs, z⟩
      · cases q.symm.trans z
      · have z2 := un.frzs b ob _ z
        have e1 := (hok b _ z).1
        have e2 := (hok' b _ z2).1
        rw [e] at e1
        cases e1
        exact e2
/-- as L2.walk_of, from a promise for surroundings without guards -/
theorem walkG {l : PySem.W.OpenLaw} {n k : Nat} {q : Program} {loose : List Str} {XP : (Str → Option Value) → Heap → Prop} {YP : World → Heap → Prop} {d : DefRec} {K : Params → PySem.W.Frag} {CX : World → CXT} {sp : World → Sp} {x : Str}
    (hn : l.most = some n) (hn2 : n ≤ sizeLine) (hdf : d.params.defaults = []) (hr : Room k callerA) (hY : ∀ (w : World) (h : Heap), YP w h → (K w.params).In h)
    (F : ∀ (w : World) (mg : Str → Option Value) (fa : Addr) (h : Heap), (K w.params).In h → h.Ns mainGlobals mg → mg d.name = some (.ref fa) →
      ∃ fd : FuncData, (∀ (s : Shared) (u : Value), BindsTo s fd ⟨[u], []⟩ [(x, u)]) ∧ ∀ base : Heap, (K w.params).In base → base.Ns mainGlobals mg → FnG l.prog w (K w.params) mg base (CX w) k fa fd [x] (sp w))
    (hsp : ∀ (w : World) (H : Hp) (a : Addr) (ns : List Int), ns.length ≤ n → Only H → SqL (K w.params) H a (ns.map V.int) → sp w [.ref a] H (fun v _ => v = .bl true) fun _ _ _ => False)
    (hCX : ∀ (w : World) (H : Hp) (s : Shared) (e : Value) (s' : Shared), CX w [] H s (fun _ _ _ => False) e s' → False) : PySem.W.WalkO q loose XP YP l.row.toRowW d [] (fun f vs => PySem.call f vs) := by
  apply Att.attach_call hn hdf
  intro w s₀ s₁ mg mb fa o pm cd doc a vs ns G Y ho hd hcd hmg hobj hints hlen hg
  obtain ⟨fd, bind, hF⟩ := F w mg fa _ (hY w _ Y) G.T.g hmg
  exact law_callG (hY w _ Y) G.T.g G.T.b G.T.builtins G.T.nolimit hg hobj hints (Nat.le_trans hlen hn2) hr hF bind (fun H hO hS => hsp w H a ns hlen hO hS) fun H e s' => hCX w H s₁ e s'
end Ob

set_option Elab.async false
set_option linter.all false
set_option maxRecDepth 100000
set_option maxHeartbeats 1000000
namespace Ob
open PySem PySem.Spec PyProof.Rows L2
theorem WpE.flat {G : Gx} {W : XK} {m : Bool} {F H : Hp} {α : List Addr} {M : Ms} {x : PyData} {v : V} {Q : VK} (h : WpE G W m F α H (Rs.ok (.d x) M) Q) (n : ∀ xs, x ≠ .list xs) (R : Rp G F α M H) (r : Dq F v x) : Q v H := by
  cases m with
  | false => exact h.done R r
  | true =>
    obtain ⟨xs, e, _⟩ := h
    cases e
    exact absurd rfl (n xs)
theorem WpE.tupM {G : Gx} {W : XK} {m : Bool} {F H : Hp} {α : List Addr} {M : Ms} {xs : List PyData} {vs : List V} {p : Addr} {Q : VK} (h : WpE G W m F α H (Rs.ok (.d (.tuple xs)) M) Q) (R : Rp G F α M H)
    (hp : H p = none) (r : DqAll F vs xs) : Q (.ref p) (upd H p (.tup vs)) := by
  cases m with
  | false => exact h.tup R hp r
  | true =>
    obtain ⟨xs, e, _⟩ := h
    cases e
/-- how a def is promised: what the evaluator's call tells -/
def spEv (G : Gx) (call : Nat → List D → Ms → Rs D) (f : Nat) (m : Bool) : Sp := fun vs H Q W => ∃ F α M ds, Rp G F α M H ∧ RVs G F α ds vs ∧ WpE G W m F α H (call f ds M) Q
structure FnsOk (G : Gx) (T : Tab) (call : Nat → List D → Ms → Rs D) (P : Program) (w : World) (mg : Str → Option Value) (base : Heap) (k : Nat) : Prop where
  fn : ∀ f fd, T.fns[f]? = some fd → mg fd.name = some (.ref (G.fa f)) ∧ PySem.W.keepIn G.K (.ref (G.fa f)) = true ∧
    ∃ fdata, Binds G.K fdata fd.ps [] ∧ ∀ m, (m = true → fd.nw = true) → FnG P w G.K mg base (L2.CX P w) k (G.fa f) fdata fd.ps (spEv G call f m)
def bltNames : List Str := ["len", "abs", "min", "max", "sum", "sorted", "tuple", "list", "all", "any", "int", "str", "repr", "bool", "isinstance", "range", "zip", "enumerate", "dict", "set"]
structure Cok (G : Gx) (T : Tab) (N : List Str) (call : Nat → List D → Ms → Rs D) (W : XK) (X : Cx) (s0 sc : Scope) : Prop where
  calm : X.calm = true
  nd : X.N.Nodup
  hN : X.N = N
  hsc : X.env.scope = sc
  fk : sc.kind = .function
  st : ∀ x, locB s0 x = true → Loc X.env.scope x ∧ (X.fn x = true ∨ X.env.scope.names.lookup x = some .local)
  kk : X.K = G.K
  gd : X.A.guards = some []
  un : X.A.units + 65 < cLine
  consts : ∀ x i, T.consts.lookup x = some i → ∃ t, X.mg x = some (.int i t)
  blt : ∀ x ∈ bltNames, X.mg x = none
  gcd : T.gcd = true → X.mg "gcd" = some (.builtin "math.gcd")
  fns : ∃ k, FnsOk G T call X.prog X.w X.mg X.base k ∧ Room k X.A ∧ Passes (L2.CX X.prog X.w) X W
section
variable {G : Gx} {T : Tab} {N : List Str} {call : Nat → List D → Ms → Rs D} {W : XK} {X : Cx} {s0 sc : Scope}
theorem PE.imp {e : Expr} {t t' : TE} (h : PE X e t) (i : ∀ σ H Q, t' σ H Q → t σ H Q) : PE X e t' := ⟨fun pins s σ H Q I q => h.run pins s σ H Q I (i σ H Q q)⟩
theorem PT.imp {e : Expr} {t t' : TT} (h : PT X e t) (i : ∀ σ H Q, t' σ H Q → t σ H Q) : PT X e t' := ⟨fun pins s σ H Q I q => h.run pins s σ H Q I (i σ H Q q)⟩
theorem PW.imp {e : Expr} {t t' : TT} (h : PW X e t) (i : ∀ σ H Q, t' σ H Q → t σ H Q) : PW X e t' := ⟨fun wh pins s σ H Q I q => h.run wh pins s σ H Q I (i σ H Q q)⟩
theorem PA.imp {e : List Expr} {t t' : TA} (h : PA X e t) (i : ∀ σ H Q, t' σ H Q → t σ H Q) : PA X e t' := ⟨fun pos pins s σ H Q I q => h.run pos pins s σ H Q I (i σ H Q q)⟩
/-! ### what the check tells of names -/
theorem Cok.slot (C : Cok G T N call W X s0 sc) {i : Nat} {x : Str} (h : slotB sc N i x = true) : X.N[i]? = some x ∧ Vis X.env.scope x ∧ (x == ("__debug__" : Str)) = false ∧ (x == ("__classdict__" : Str)) = false := by
  unfold slotB okN at h
  simp only [Bool.and_eq_true, decide_eq_true_eq, Bool.not_eq_true'] at h
  obtain ⟨⟨h1, h2⟩, ⟨h3, h4⟩, _⟩ := h
  refine ⟨by rw [C.hN]; exact h1, ?_, h3, h4⟩
  rw [C.hsc]
  unfold visB at h2
  unfold Vis
  split at h2 <;> first | (exact .inl (by assumption)) | (exact .inr (.inl (by assumption))) | (exact .inr (.inr (by assumption))) | cases h2
theorem Cok.gl (C : Cok G T N call W X s0 sc) {x : Str} (h : glB sc x = true) : Gl X x := by
  show X.env.scope.names.lookup x = _
  rw [C.hsc]
  unfold glB at h
  split at h
  · assumption
  · cases h
theorem okN_d {x : Str} (h : okN x = true) : (x == ("__debug__" : Str)) = false := by
  unfold okN at h
  simp only [Bool.and_eq_true, Bool.not_eq_true'] at h
  exact h.1.1
theorem okN_n {x : Str} (h : okN x = true) : x ≠ ("__name__" : Str) := by
  unfold okN at h
  simp only [Bool.and_eq_true, Bool.not_eq_true', beq_eq_false_iff_ne] at h
  exact h.2
theorem starEach_plain {x : Expr} (xs : List Expr) (env : Env) (h : plainX x = true) : starEach (x :: xs) env = (false, eval x env) :: starEach xs env := by
  cases x <;> first | rfl | cases h
theorem plainIx_of {x : Expr} (h : plainX x = true) : PlainIx x := by
  intro o i
  cases x <;> first | rfl | cases h
theorem nomark_of {op : CmpOp} {x : Expr} (h : plainX x = true) : behindInMarks op x = false := by
  cases x <;> first | rfl | cases h
theorem fold_of {x : Expr} (env : Env) (h : plainX x = true) (v : Value) : foldedSetIterable x env v = pure v := by
  cases x <;> first | rfl | cases h
theorem tst_plain {x : Expr} (env : Env) (h : tstX x = true) (whole : Sem Value) : isTrue x env whole = (do let v ← whole; standAt x.pos; holding [v] (truthy v)) := by
  cases x <;> first | rfl | cases h | (rename_i op _ _; cases op <;> first | rfl | cases h)
/-! ### operators -/
theorem line_le {n : Nat} (h : line n = true) : n ≤ sizeLine := by
  unfold line at h
  rw [sizeLine_eq]
  exact of_decide_eq_true h
/-- list + list, a locked one too -/
theorem op_catR : OpR X (binaryOp .Add) (fun x y H Q => ∃ l b xs zs, x = .ref l ∧ y = .ref b ∧ Rd H l (.lst xs) ∧ Rd H b (.lst zs) ∧ xs.length + zs.length ≤ sizeLine ∧ ∀ p, H p = none → Q (.ref p) (upd H p (.lst (xs ++ zs)))) := by
  intro pins s σ H x y v u Q I rx ry h
  obtain ⟨l, b, xs, zs, rfl, rfl, hH, hB, hz, q⟩ := h
  cases rx
  cases ry
  obtain ⟨z, its, n, r, e⟩ := hH.ok I.hok
  obtain ⟨z2, its2, n2, r2, e2⟩ := hB.ok I.hok
  have hl := r.length
  have hl2 := r2.length
  refine PySem.P.add_list e e2 ?_ (by rw [List.size_toArray, List.size_toArray]; omega)
  have ea : its.toArray ++ its2.toArray = (its ++ its2).toArray := by simp
  rw [ea]
  exact ⟨.ref _, _, I.lnew (t' := s.toks) (r.append r2) (by rw [List.length_append]; omega), rfl, q _ I.fresh⟩
theorem rv_int' {F : Hp} {α : List Addr} {b : Int} {v : V} (r : RV G F α (.d (.int b)) v) : v = .int b := by cases r; rfl
theorem dqAll_rep {F : Hp} {vs : List V} {xs : List PyData} (g : DqAll F vs xs) : ∀ k : Nat, DqAll F (List.replicate k vs).flatten (List.replicate k xs).flatten
  | 0 => .nil
  | k + 1 => by
    rw [List.replicate_succ, List.replicate_succ, List.flatten_cons, List.flatten_cons]
    exact DqAll.append g (dqAll_rep g k)
theorem opr_ok (C : Cok G T N call W X s0 sc) (op : Operator) (m : Bool) : OpR X (binaryOp op) (fun x y H Q => ∃ F α M d1 d2, Rp G F α M H ∧ RV G F α d1 x ∧ RV G F α d2 y ∧ WpE G W m F α H (oprD op d1 d2 M) Q) := by
  intro pins s σ H x y v u Q I rx ry h
  obtain ⟨F, α, M, d1, d2, R, r1, r2, h⟩ := h
  unfold oprD at h
  split at h
  · rename_i xs k
    split at h
    · rename_i hk
      cases rv_int' r2
      cases r1 with
      | @lst a vs _ ha g =>
        have l1 := DqAll.length g
        exact op_rep pins s σ H _ _ v u Q I rx ry ⟨a, k, vs, rfl, rfl, R.sub _ _ ha, hk.1, hk.2.1, by rw [l1]; exact line_le hk.2.2, fun p hp => h.list R hp (dqAll_rep g k.toNat)⟩
    · exact h.elim
  · rename_i xs k
    split at h
    · rename_i hk
      obtain ⟨h1, h2, h3, h4⟩ := hk
      cases rv_int' r2
      cases r1 with
      | @tup a vs _ ha g =>
        have l1 := DqAll.length g
        exact op_repT pins s σ H _ _ v u Q I rx ry ⟨a, k, vs, rfl, rfl, .inl (.inl (R.sub _ _ ha)), fun e => h1 (by cases g with
          | nil => rfl
          | cons _ _ => cases e), h2, h3, by rw [l1]; exact h4, fun p hp => h.tupM R hp (dqAll_rep g k.toNat)⟩
    · exact h.elim
  rename_i z1 z2
  clear z1 z2
  split at h
  · rename_i a b ha hb
    cases e : opr op a b with
    | none => rw [e] at h; exact h.elim
    | some z =>
      rw [e] at h
      have h : WpE G W m F α H (Rs.ok (.d z) M) Q := h
      unfold opr at e
      split at e
      · cases e; cases R.viewI r1 ha; cases R.viewI r2 hb
        exact op_add pins s σ H _ _ v u Q I rx ry ⟨_, _, rfl, rfl, h.flat (fun _ z => by cases z) R (.int _)⟩
      · cases e; cases R.viewI r1 ha; cases R.viewI r2 hb
        exact op_sub pins s σ H _ _ v u Q I rx ry ⟨_, _, rfl, rfl, h.flat (fun _ z => by cases z) R (.int _)⟩
      · split at e
        · rename_i hm
          cases e; cases R.viewI r1 ha; cases R.viewI r2 hb
          have hm := of_decide_eq_true hm
          have q := h.flat (fun _ z => by cases z) R (.int _)
          rcases hm with hm | hm | hm
          · exact op_mul pins s σ H _ _ v u Q I rx ry ⟨_, _, rfl, rfl, .inl hm, q⟩
          · exact op_mul pins s σ H _ _ v u Q I rx ry ⟨_, _, rfl, rfl, .inr hm, q⟩
          · exact op_mulW pins s σ H _ _ v u Q I rx ry ⟨_, _, rfl, rfl, hm, q⟩
        · cases e
      · split at e
        · rename_i hm
          cases e; cases R.viewI r1 ha; cases R.viewI r2 hb
          have q := h.flat (fun _ z => by cases z) R (.int _)
          obtain ⟨t, rfl⟩ := rx
          obtain ⟨t', rfl⟩ := ry
          refine floordiv_int hm.1 ?_ (.inl (PyProof.noPylong_of_log2 hm.2))
          refine ⟨.int _, H, I.tok _, ⟨_, rfl⟩, ?_⟩
          rename_i i j h0
          by_cases hj : 0 < j
          · rw [if_pos hj] at q
            rw [Int.fdiv_eq_ediv_of_nonneg i (by omega)]; exact q
          · rw [if_neg hj] at q; exact q
        · cases e
      · split at e
        · rename_i hm
          cases e; cases R.viewI r1 ha; cases R.viewI r2 hb
          have q := h.flat (fun _ z => by cases z) R (.int _)
          refine op_modN pins s σ H _ _ v u Q I rx ry ⟨_, _, rfl, rfl, hm, ?_⟩
          rename_i i j h0
          by_cases hj : 0 < j
          · rw [if_pos hj] at q
            show Q (.int (i.fmod j)) H
            rw [Int.fmod_eq_emod_of_nonneg i (by omega)]; exact q
          · rw [if_neg hj] at q; exact q
        · cases e
      · split at e
        · rename_i hm
          cases e; cases R.viewI r1 ha; cases R.viewI r2 hb
          exact op_pow pins s σ H _ _ v u Q I rx ry ⟨_, _, rfl, rfl, hm, h.flat (fun _ z => by cases z) R (.int _)⟩
        · cases e
      · split at e
        · rename_i hm
          cases e
          obtain ⟨a, vs, rfl, f1, h1, g1⟩ := R.viewT r1 ha
          obtain ⟨b, ws, rfl, f2, h2, g2⟩ := R.viewT r2 hb
          have l1 := DqAll.length g1
          have l2 := DqAll.length g2
          have hz : vs.length + ws.length ≤ sizeLine := by rw [l1, l2]; exact line_le hm
          refine op_catA pins s σ H _ _ v u Q I rx ry ⟨a, b, vs, ws, rfl, rfl, .inl (.inl h1), .inl (.inl h2), hz, fun e0 => ?_, fun _ e1 => ?_, fun _ _ p hp => ?_⟩
          · subst e0
            cases g1
            exact h.flat (fun _ z => by cases z) R (.tup f2 g2)
          · subst e1
            cases g2
            rw [List.append_nil] at h
            exact h.flat (fun _ z => by cases z) R (.tup f1 g1)
          · exact h.tupM R hp (DqAll.append g1 g2)
        · cases e
      · split at e
        · rename_i hm
          cases e
          obtain ⟨a, vs, rfl, h1, g1⟩ := R.viewL r1 ha
          obtain ⟨b, ws, rfl, h2, g2⟩ := R.viewL r2 hb
          have l1 := DqAll.length g1
          have l2 := DqAll.length g2
          have hz : vs.length + ws.length ≤ sizeLine := by rw [l1, l2]; exact line_le hm
          exact op_catR pins s σ H _ _ v u Q I rx ry ⟨a, b, vs, ws, rfl, rfl, h1, h2, hz, fun p hp => h.list R hp (DqAll.append g1 g2)⟩
        · cases e
      · split at e
        · rename_i hm
          cases e; cases R.viewS r1 ha; cases R.viewS r2 hb
          exact op_add_str pins s σ H _ _ v u Q I rx ry ⟨_, _, rfl, rfl, line_le hm, h.flat (fun _ z => by cases z) R (.str _)⟩
        · cases e
      · cases e
  · exact h.elim
/-! ### comparisons -/
/-- what a dict has at a key -/
def Lk (F : Hp) : Option PyData → Option V → Prop
  | none, o => o = none
  | some x, o => ∃ w, o = some w ∧ Dq F w x
theorem dlook_get (C : Cok G T N call W X s0 sc) {F H : Hp} {α : List Addr} {M : Ms} (R : Rp G F α M H) {d : D} {k : PyData} {v y : V} {o : Option PyData} (r : RV G F α d v) (rk : Dq F y k) (h : dlook M d k = some o) :
    ∃ a ov, v = .ref a ∧ DGet H a y ov ∧ Lk F o ov := by
  have key : ∀ {κ : Type} [DecidableEq κ] {ws : List (κ × V)} {kvs : List (κ × PyData)} (k : κ), KvOk G F ws kvs → Lk F (look kvs k) (valV ws k) := by
    intro κ _ ws kvs k z
    induction z with
    | nil => rfl
    | @cons w kv ws kvs h1 h2 ih =>
      obtain ⟨wk, wv⟩ := w
      obtain ⟨kk, kx⟩ := kv
      obtain ⟨e, g⟩ := h1
      have e : wk = kk := e
      subst e
      unfold look valV at ih ⊢
      rw [List.find?_cons, List.find?_cons]
      by_cases c : wk = k
      · subst c
        simp
        exact ⟨_, rfl, g⟩
      · simp only [c, decide_false]
        exact ih
  have keyK : ∀ {p : PyData} {q : Key} {y : V}, Dq F y p → keyOf p = some q → y = kV q := by
    intro p q y hy e
    cases hy <;> simp [keyOf] at e <;> subst e <;> rfl
  have keyL : ∀ {ps : List PyData} {qs : List Key} {ys : List V}, DqAll F ys ps → keysOf ps = some qs → ys = qs.map kV := by
    intro ps
    induction ps with
    | nil => intro qs ys hy e; cases hy; simp [keysOf] at e; subst e; rfl
    | cons p ps ih =>
      intro qs ys hy e
      cases hy with
      | cons h1 h2 =>
        unfold keysOf at e
        split at e
        · rename_i a b ea eb
          cases e
          rw [keyK h1 ea, ih h2 eb]; rfl
        · cases e
  have keyTT : ∀ {p : PyData} {q : List Key} {y : V}, Dq F y p → keyT p = some q → ∃ b, y = .ref b ∧ F b = some (.tup (q.map kV)) := by
    intro p q y hy e
    cases hy <;> simp [keyT] at e
    rename_i a xs ds hf g
    exact ⟨a, rfl, by rw [← keyL g e]; exact hf⟩
  cases d with
  | own n =>
    obtain ⟨a, ha, rfl⟩ := r
    have h : (match M[n]? with
      | some (.dK kvs) => (keyOf k).map (look kvs)
      | some (.zK kvs) => (keyOf k).map (look kvs)
      | some (.dT kvs) => (keyT k).map (look kvs)
      | some (.zT kvs) => (keyT k).map (look kvs)
      | _ => none) = some o := h
    cases q : M[n]? with
    | none => simp [q] at h
    | some m =>
      have z := R.ok n a m ha q
      rw [q] at h
      cases m with
      | lst xs => cases h
      | zL xs => cases h
      | dK kvs =>
        obtain ⟨ws, e, g⟩ := z
        cases hk : keyOf k with
        | none => simp [hk] at h
        | some kk =>
          simp only [hk, Option.map_some, Option.some.injEq] at h
          subst h
          cases keyK rk hk
          exact ⟨a, valV ws kk, rfl, .inl ⟨ws, kk, .inl e, rfl, rfl⟩, key kk g⟩
      | zK kvs =>
        obtain ⟨oo, ws, e, g⟩ := z
        cases hk : keyOf k with
        | none => simp [hk] at h
        | some kk =>
          simp only [hk, Option.map_some, Option.some.injEq] at h
          subst h
          cases keyK rk hk
          exact ⟨a, valV ws kk, rfl, .inl ⟨ws, kk, .inr ⟨oo, e⟩, rfl, rfl⟩, key kk g⟩
      | dT kvs =>
        obtain ⟨ws, e, g⟩ := z
        cases hk : keyT k with
        | none => simp [hk] at h
        | some kk =>
          simp only [hk, Option.map_some, Option.some.injEq] at h
          subst h
          obtain ⟨b, rfl, hb⟩ := keyTT rk hk
          exact ⟨a, valV ws kk, rfl, .inr ⟨ws, kk, b, .inl e, rfl, R.sub _ _ hb, rfl⟩, key kk g⟩
      | zT kvs =>
        obtain ⟨oo, ws, e, g⟩ := z
        cases hk : keyT k with
        | none => simp [hk] at h
        | some kk =>
          simp only [hk, Option.map_some, Option.some.injEq] at h
          subst h
          obtain ⟨b, rfl, hb⟩ := keyTT rk hk
          exact ⟨a, valV ws kk, rfl, .inr ⟨ws, kk, b, .inr ⟨oo, e⟩, rfl, R.sub _ _ hb, rfl⟩, key kk g⟩
  | _ => cases h
theorem dlook_some {o : Option PyData} {ov : Option V} {F : Hp} (h : Lk F o ov) : ov.isSome = o.isSome := by
  cases o with
  | none => have h : ov = none := h; subst h; rfl
  | some x => obtain ⟨w, h, _⟩ := h; subst h; rfl
theorem op_inT (hu : X.A.units + 65 < cLine) : OpR X (compareOp .In) (fun x y H Q => ∃ d ds, Dp X.K H x d ∧ Dp X.K H y (.tuple ds) ∧ SeqAt.shaped d = true ∧ SeqAt.shaped (.tuple ds) = true ∧ Q (.bl (ds.any fun z => PyData.eqv z d)) H) := by
  intro pins s σ H x y v u Q I rx ry h
  obtain ⟨d, ds, hd, he, sd, se, q⟩ := h
  obtain ⟨as, r1⟩ := Dp.reads I d x v hd rx
  obtain ⟨bs, r2⟩ := Dp.reads I (.tuple ds) y u he ry
  exact SeqAt.in_tuple_reads r2 r1 (SeqAt.canLay_of_shaped se) (SeqAt.canLay_of_shaped sd) (room_in_shaped sd hu) ⟨.bl _, H, I, rfl, q⟩
theorem op_notInT (hu : X.A.units + 65 < cLine) : OpR X (compareOp .NotIn) (fun x y H Q => ∃ d ds, Dp X.K H x d ∧ Dp X.K H y (.tuple ds) ∧ SeqAt.shaped d = true ∧ SeqAt.shaped (.tuple ds) = true ∧ Q (.bl (!ds.any fun z => PyData.eqv z d)) H) := by
  intro pins s σ H x y v u Q I rx ry h
  obtain ⟨d, ds, hd, he, sd, se, q⟩ := h
  obtain ⟨as, r1⟩ := Dp.reads I d x v hd rx
  obtain ⟨bs, r2⟩ := Dp.reads I (.tuple ds) y u he ry
  exact SeqAt.notIn_tuple_reads r2 r1 (SeqAt.canLay_of_shaped se) (SeqAt.canLay_of_shaped sd) (room_in_shaped sd hu) ⟨.bl _, H, I, rfl, q⟩
theorem is_ok {F H : Hp} {x y : PyData} {v u : V} {b : Bool} (hx : Dq F v x) (hy : Dq F u y) (h : isC x y = some b) {pins : List (Addr × Obj)} {s : Shared} {σ : L2.St} {p q : Value} {Q : VK} (I : Inv X pins σ H s) (rx : RelV v p) (ry : RelV u q) :
    (Q (.bl b) H → wpAny (model X.prog X.w) X.A (compareOp .Is p q) (EP X pins σ Q) X.xe s) ∧ (Q (.bl (!b)) H → wpAny (model X.prog X.w) X.A (compareOp .IsNot p q) (EP X pins σ Q) X.xe s) := by
  have gen : ∀ {p q : Value}, plainIs p q = true → (p == q) = b → (Q (.bl b) H → wpAny (model X.prog X.w) X.A (compareOp .Is p q) (EP X pins σ Q) X.xe s) ∧ (Q (.bl (!b)) H → wpAny (model X.prog X.w) X.A (compareOp .IsNot p q) (EP X pins σ Q) X.xe s) := by
    intro p q hp e
    exact ⟨fun hq => wpAny_is_plain hp ⟨.bl _, H, I, by rw [e]; rfl, hq⟩, fun hq => wpAny_isNot_plain hp ⟨.bl _, H, I, by rw [e]; rfl, hq⟩⟩
  cases hy with
  | non =>
    cases (show q = Value.none from ry)
    cases hx with
    | non => cases (show p = Value.none from rx); simp [isC] at h; subst h; exact gen rfl (by simp)
    | bl => cases (show p = Value.bool _ from rx); simp [isC] at h; subst h; exact gen rfl (by simp)
    | int => obtain ⟨t, rfl⟩ := (show ∃ t, p = Value.int _ t from rx); simp [isC] at h; subst h; exact gen rfl (by simp)
    | str => obtain ⟨t, rfl⟩ := (show ∃ t, p = Value.str _ t from rx); simp [isC] at h; subst h; exact gen rfl (by simp)
    | lst => cases (show p = Value.ref _ from rx); simp [isC] at h; subst h; exact gen rfl (by simp)
    | tup => cases (show p = Value.ref _ from rx); simp [isC] at h; subst h; exact gen rfl (by simp)
  | bl c =>
    cases (show q = Value.bool _ from ry)
    cases hx with
    | non => cases (show p = Value.none from rx); simp [isC] at h; subst h; exact gen rfl (by simp)
    | bl a => cases (show p = Value.bool _ from rx); simp [isC] at h; subst h; exact gen rfl (by cases a <;> cases c <;> rfl)
    | int => obtain ⟨t, rfl⟩ := (show ∃ t, p = Value.int _ t from rx); simp [isC] at h; subst h; exact gen rfl (by simp)
    | str => obtain ⟨t, rfl⟩ := (show ∃ t, p = Value.str _ t from rx); simp [isC] at h; subst h; exact gen rfl (by simp)
    | lst => cases (show p = Value.ref _ from rx); simp [isC] at h; subst h; exact gen rfl (by simp)
    | tup => cases (show p = Value.ref _ from rx); simp [isC] at h; subst h; exact gen rfl (by simp)
  | int => simp [isC] at h
  | str => simp [isC] at h
  | lst => simp [isC] at h
  | tup => simp [isC] at h
theorem cmpr_Lt {a b : PyData} {c : Bool} (h : cmpr .Lt a b = some c) : ∃ i j, a = .int i ∧ b = .int j ∧ c = decide (i < j) := by
  cases a <;> cases b <;> simp [cmpr] at h
  exact ⟨_, _, rfl, rfl, h.symm⟩
theorem cmpr_LtE {a b : PyData} {c : Bool} (h : cmpr .LtE a b = some c) : ∃ i j, a = .int i ∧ b = .int j ∧ c = decide (i ≤ j) := by
  cases a <;> cases b <;> simp [cmpr] at h
  exact ⟨_, _, rfl, rfl, h.symm⟩
theorem cmpr_Gt {a b : PyData} {c : Bool} (h : cmpr .Gt a b = some c) : ∃ i j, a = .int i ∧ b = .int j ∧ c = decide (j < i) := by
  cases a <;> cases b <;> simp [cmpr] at h
  exact ⟨_, _, rfl, rfl, h.symm⟩
theorem cmpr_GtE {a b : PyData} {c : Bool} (h : cmpr .GtE a b = some c) : ∃ i j, a = .int i ∧ b = .int j ∧ c = decide (j ≤ i) := by
  cases a <;> cases b <;> simp [cmpr] at h
  exact ⟨_, _, rfl, rfl, h.symm⟩
theorem cmp_ok (C : Cok G T N call W X s0 sc) (op : CmpOp) : OpR X (compareOp op) (fun x y H Q => ∃ F α M d1 d2, Rp G F α M H ∧ RV G F α d1 x ∧ RV G F α d2 y ∧ WpE G W false F α H (cmpD op d1 d2 M) Q) := by
  intro pins s σ H x y v u Q I rx ry h
  obtain ⟨F, α, M, d1, d2, R, r1, r2, h⟩ := h
  have hu := C.un
  have hu1 : X.A.units + 1 < cLine := by omega
  have hu64 : X.A.units + 64 < cLine := by omega
  cases op with
  | In =>
    unfold cmpD at h
    simp only at h
    split at h
    · rename_i n k
      cases e : dlook M (.own n) k with
      | some o =>
        rw [e] at h
        obtain ⟨a, ov, rfl, g, hm⟩ := dlook_get C R r2 r1 e
        obtain rfl : u = Value.ref a := ry
        refine d_in hu1 I g rx fun s3 I3 => ⟨.bl _, H, I3, rfl, ?_⟩
        rw [dlook_some hm]
        exact h.done R (.bl _)
      | none =>
        rw [e] at h
        simp only at h
        split at h
        · rename_i ys ev
          split at h
          · rename_i hs
            simp only [Bool.and_eq_true] at hs
            exact op_inD hu pins s σ H x y v u Q I rx ry ⟨k, ys, by rw [C.kk]; exact Dq.dp R.sub r1, by rw [C.kk]; exact R.viewDp r2 ev, hs.1, hs.2, h.done R (.bl _)⟩
          · exact h.elim
        · exact h.elim
    · rename_i ys k
      split at h
      · rename_i hs
        simp only [Bool.and_eq_true] at hs
        exact op_inD hu pins s σ H x y v u Q I rx ry ⟨k, ys, Dq.dp R.sub r1, Dq.dp R.sub r2, hs.1, hs.2, h.done R (.bl _)⟩
      · exact h.elim
    · rename_i ys k
      split at h
      · rename_i hs
        simp only [Bool.and_eq_true] at hs
        exact op_inT hu pins s σ H x y v u Q I rx ry ⟨k, ys, Dq.dp R.sub r1, Dq.dp R.sub r2, hs.1, hs.2, h.done R (.bl _)⟩
      · exact h.elim
    · exact h.elim
  | NotIn =>
    unfold cmpD at h
    simp only at h
    split at h
    · rename_i n k
      cases e : dlook M (.own n) k with
      | some o =>
        rw [e] at h
        obtain ⟨a, ov, rfl, g, hm⟩ := dlook_get C R r2 r1 e
        obtain rfl : u = Value.ref a := ry
        refine d_notIn hu1 I g rx fun s3 I3 => ⟨.bl _, H, I3, rfl, ?_⟩
        rw [dlook_some hm]
        exact h.done R (.bl _)
      | none =>
        rw [e] at h
        simp only at h
        split at h
        · rename_i ys ev
          split at h
          · rename_i hs
            simp only [Bool.and_eq_true] at hs
            exact op_notInD hu pins s σ H x y v u Q I rx ry ⟨k, ys, by rw [C.kk]; exact Dq.dp R.sub r1, by rw [C.kk]; exact R.viewDp r2 ev, hs.1, hs.2, h.done R (.bl _)⟩
          · exact h.elim
        · exact h.elim
    · rename_i ys k
      split at h
      · rename_i hs
        simp only [Bool.and_eq_true] at hs
        exact op_notInD hu pins s σ H x y v u Q I rx ry ⟨k, ys, Dq.dp R.sub r1, Dq.dp R.sub r2, hs.1, hs.2, h.done R (.bl _)⟩
      · exact h.elim
    · rename_i ys k
      split at h
      · rename_i hs
        simp only [Bool.and_eq_true] at hs
        exact op_notInT hu pins s σ H x y v u Q I rx ry ⟨k, ys, Dq.dp R.sub r1, Dq.dp R.sub r2, hs.1, hs.2, h.done R (.bl _)⟩
      · exact h.elim
    · exact h.elim
  | Is =>
    unfold cmpD at h
    simp only at h
    split at h
    · rename_i a b
      cases e : isC a b with
      | none => rw [e] at h; exact h.elim
      | some c =>
        rw [e] at h
        exact (is_ok r1 r2 e I rx ry).1 (WpE.done (d := .d (.bool c)) h R (.bl _))
    · exact h.elim
  | IsNot =>
    unfold cmpD at h
    simp only at h
    split at h
    · rename_i a b
      cases e : isC a b with
      | none => rw [e] at h; exact h.elim
      | some c =>
        rw [e] at h
        exact (is_ok r1 r2 e I rx ry).2 (WpE.done (d := .d (.bool (!c))) h R (.bl _))
    · exact h.elim
  | Eq =>
    unfold cmpD at h
    simp only at h
    split at h
    · rename_i a b ha hb
      cases e : eqO a b with
      | none => unfold cmpr at h; simp only [e] at h; exact h.elim
      | some c =>
        unfold cmpr at h
        simp only [e] at h
        have h : WpE G W false F α H (Rs.ok (.d (.bool c)) M) Q := h
        unfold eqO at e
        split at e
        · cases e
          cases R.viewS r1 ha; cases R.viewS r2 hb
          exact op_eq pins s σ H _ _ v u Q I rx ry ⟨rfl, by simpa using WpE.done (d := .d (.bool _)) h R (.bl _)⟩
        · split at e
          · rename_i hs
            cases e
            simp only [Bool.and_eq_true] at hs
            exact op_eqD hu64 pins s σ H x y v u Q I rx ry ⟨a, b, R.viewDp r1 ha, R.viewDp r2 hb, hs.1, hs.2, WpE.done (d := .d (.bool _)) h R (.bl _)⟩
          · cases e
    · exact h.elim
  | NotEq =>
    unfold cmpD at h
    simp only at h
    split at h
    · rename_i a b ha hb
      cases e : eqO a b with
      | none => unfold cmpr at h; simp only [e] at h; exact h.elim
      | some c =>
        unfold cmpr at h
        simp only [e] at h
        have h : WpE G W false F α H (Rs.ok (.d (.bool (!c))) M) Q := h
        unfold eqO at e
        split at e
        · cases e
          cases R.viewS r1 ha; cases R.viewS r2 hb
          exact op_ne pins s σ H _ _ v u Q I rx ry ⟨rfl, by simpa using WpE.done (d := .d (.bool _)) h R (.bl _)⟩
        · split at e
          · rename_i hs
            cases e
            simp only [Bool.and_eq_true] at hs
            exact op_neD hu64 pins s σ H x y v u Q I rx ry ⟨a, b, R.viewDp r1 ha, R.viewDp r2 hb, hs.1, hs.2, WpE.done (d := .d (.bool _)) h R (.bl _)⟩
          · cases e
    · exact h.elim
  | Lt =>
    unfold cmpD at h
    simp only at h
    split at h
    · rename_i a b ha hb
      cases e : cmpr .Lt a b with
      | none => rw [e] at h; exact h.elim
      | some c =>
        rw [e] at h
        obtain ⟨i, j, rfl, rfl, rfl⟩ := cmpr_Lt e
        cases R.viewI r1 ha; cases R.viewI r2 hb
        exact op_lt pins s σ H _ _ v u Q I rx ry ⟨_, _, rfl, rfl, WpE.done (d := .d (.bool _)) h R (.bl _)⟩
    · exact h.elim
  | LtE =>
    unfold cmpD at h
    simp only at h
    split at h
    · rename_i a b ha hb
      cases e : cmpr .LtE a b with
      | none => rw [e] at h; exact h.elim
      | some c =>
        rw [e] at h
        obtain ⟨i, j, rfl, rfl, rfl⟩ := cmpr_LtE e
        cases R.viewI r1 ha; cases R.viewI r2 hb
        exact op_le pins s σ H _ _ v u Q I rx ry ⟨_, _, rfl, rfl, WpE.done (d := .d (.bool _)) h R (.bl _)⟩
    · exact h.elim
  | Gt =>
    unfold cmpD at h
    simp only at h
    split at h
    · rename_i a b ha hb
      cases e : cmpr .Gt a b with
      | none => rw [e] at h; exact h.elim
      | some c =>
        rw [e] at h
        obtain ⟨i, j, rfl, rfl, rfl⟩ := cmpr_Gt e
        cases R.viewI r1 ha; cases R.viewI r2 hb
        exact op_gt pins s σ H _ _ v u Q I rx ry ⟨_, _, rfl, rfl, WpE.done (d := .d (.bool _)) h R (.bl _)⟩
    · exact h.elim
  | GtE =>
    unfold cmpD at h
    simp only at h
    split at h
    · rename_i a b ha hb
      cases e : cmpr .GtE a b with
      | none => rw [e] at h; exact h.elim
      | some c =>
        rw [e] at h
        obtain ⟨i, j, rfl, rfl, rfl⟩ := cmpr_GtE e
        cases R.viewI r1 ha; cases R.viewI r2 hb
        exact op_ge pins s σ H _ _ v u Q I rx ry ⟨_, _, rfl, rfl, WpE.done (d := .d (.bool _)) h R (.bl _)⟩
    · exact h.elim
end
end Ob

set_option Elab.async false
set_option linter.all false
set_option maxRecDepth 100000
set_option maxHeartbeats 1000000
namespace Ob
open PySem PySem.Spec PyProof.Rows L2
section
variable {G : Gx} {T : Tab} {N : List Str} {call : Nat → List D → Ms → Rs D} {W : XK} {X : Cx} {s0 sc : Scope}
/-! ### built-in functions -/
theorem bools_vs {F : Hp} : ∀ {xs : List PyData} {vs : List V} {bs : List Bool}, DqAll F vs xs → boolsOf xs = some bs → vs = bs.map V.bl
  | [], _, _, .nil, e => by simp [boolsOf] at e; subst e; rfl
  | .bool b :: r, _, _, .cons h g, e => by
    simp only [boolsOf, Option.map_eq_some_iff] at e
    obtain ⟨bs, e1, rfl⟩ := e
    cases h
    rw [bools_vs g e1]; rfl
  | .none :: _, _, _, _, e => by simp [boolsOf] at e
  | .int _ :: _, _, _, _, e => by simp [boolsOf] at e
  | .str _ :: _, _, _, _, e => by simp [boolsOf] at e
  | .list _ :: _, _, _, _, e => by simp [boolsOf] at e
  | .tuple _ :: _, _, _, _, e => by simp [boolsOf] at e
  | .dict _ :: _, _, _, _, e => by simp [boolsOf] at e
theorem ints_vs {F : Hp} : ∀ {xs : List PyData} {vs : List V} {bs : List Int}, DqAll F vs xs → intsOf xs = some bs → vs = bs.map V.int
  | [], _, _, .nil, e => by simp [intsOf] at e; subst e; rfl
  | .int b :: r, _, _, .cons h g, e => by
    simp only [intsOf, Option.map_eq_some_iff] at e
    obtain ⟨bs, e1, rfl⟩ := e
    cases h
    rw [ints_vs g e1]; rfl
  | .none :: _, _, _, _, e => by simp [intsOf] at e
  | .bool _ :: _, _, _, _, e => by simp [intsOf] at e
  | .str _ :: _, _, _, _, e => by simp [intsOf] at e
  | .list _ :: _, _, _, _, e => by simp [intsOf] at e
  | .tuple _ :: _, _, _, _, e => by simp [intsOf] at e
  | .dict _ :: _, _, _, _, e => by simp [intsOf] at e
theorem ints_keys {kvs : List (Key × PyData)} : ∀ {ks : List Int}, intsOf (kvs.map fun kv => keyD kv.1) = some ks → kvs.map (·.1) = ks.map Sum.inl := by
  induction kvs with
  | nil => intro ks e; simp [intsOf] at e; subst e; rfl
  | cons kv kvs ih =>
    intro ks e
    obtain ⟨k, v⟩ := kv
    cases k with
    | inl i =>
      simp only [List.map_cons, keyD, intsOf, Option.map_eq_some_iff] at e
      obtain ⟨bs, e1, rfl⟩ := e
      simp [ih e1]
    | inr x => simp [keyD, intsOf] at e
theorem kv_keys {κ : Type} {F : Hp} {ws : List (κ × V)} {kvs : List (κ × PyData)} (h : KvOk G F ws kvs) : ws.map (·.1) = kvs.map (·.1) := by
  induction h with
  | nil => rfl
  | cons a _ ih => simp [a.1, ih]
theorem dqAll_ints {F : Hp} : ∀ ns : List Int, DqAll F (ns.map V.int) (ns.map .int)
  | [] => .nil
  | i :: r => .cons (.int i) (dqAll_ints r)
theorem perm_sorted {ys ks : List Int} (p : ys.Perm ks) (s : ys.Pairwise (· ≤ ·)) : ys = ks.mergeSort fun a b => decide (a ≤ b) := by
  have s2 : (ks.mergeSort fun a b => decide (a ≤ b)).Pairwise (· ≤ ·) := by
    have := List.pairwise_mergeSort (le := fun (a b : Int) => decide (a ≤ b)) (fun a b c h1 h2 => by simp at *; omega) (fun a b => by simp; omega) ks
    exact this.imp fun h => by simpa using h
  have p2 : ys.Perm (ks.mergeSort fun a b => decide (a ≤ b)) := p.trans (List.mergeSort_perm ks _).symm
  exact List.Perm.eq_of_pairwise (fun a b _ _ h1 h2 => Int.le_antisymm h1 h2) s s2 p2
/-- one argument, two -/
theorem viewAll1 {M : Ms} {ds : List D} {x : PyData} (h : viewAll M ds = some [x]) : ∃ d, ds = [d] ∧ view M d = some x := by
  cases ds with
  | nil => cases h
  | cons d r =>
    unfold viewAll at h
    split at h
    · rename_i a b ha hb
      cases h
      cases r with
      | nil => exact ⟨d, rfl, ha⟩
      | cons e q =>
        unfold viewAll at hb
        split at hb <;> cases hb
    · cases h
theorem viewAll2 {M : Ms} {ds : List D} {x y : PyData} (h : viewAll M ds = some [x, y]) : ∃ d e, ds = [d, e] ∧ view M d = some x ∧ view M e = some y := by
  cases ds with
  | nil => cases h
  | cons d r =>
    unfold viewAll at h
    split at h
    · rename_i a b ha hb
      cases h
      obtain ⟨e, rfl, he⟩ := viewAll1 hb
      exact ⟨d, e, rfl, ha, he⟩
    · cases h
theorem RVs.one {F : Hp} {α : List Addr} {d : D} {vs : List V} (h : RVs G F α [d] vs) : ∃ v, vs = [v] ∧ RV G F α d v := by
  cases h with
  | cons a b => cases b; exact ⟨_, rfl, a⟩
theorem RVs.two {F : Hp} {α : List Addr} {d e : D} {vs : List V} (h : RVs G F α [d, e] vs) : ∃ v w, vs = [v, w] ∧ RV G F α d v ∧ RV G F α e w := by
  cases h with
  | cons a b => obtain ⟨w, rfl, r⟩ := RVs.one b; exact ⟨_, w, rfl, a, r⟩
def btVal : Bt → Value
  | .len => .builtin "len" | .abs => .builtin "abs" | .min2 => .builtin "min" | .max2 => .builtin "max" | .min => .builtin "min" | .max => .builtin "max"
  | .sum => .builtin "sum" | .sorted => .builtin "sorted" | .tuple => .type "tuple" | .list => .type "list" | .all => .builtin "all" | .any => .builtin "any"
  | .int => .type "int" | .str => .type "str" | .repr => .builtin "repr" | .gcd => .builtin "math.gcd"
def rBt (G : Gx) (W : XK) (b : Bt) (m : Bool) : List V → Hp → VK → Prop := fun xs H Q => ∃ F α M ds, Rp G F α M H ∧ RVs G F α ds xs ∧ WpE G W m F α H (Rs.of ((callOp b ds M).map .d) M) Q
theorem likes_all {xs : List PyData} (h : likes xs = true) : PySem.W.AlikeAll xs ∧ PyData.depthAll xs ≤ 60 := by
  unfold likes at h
  simp only [Bool.and_eq_true, List.all_eq_true, decide_eq_true_eq] at h
  refine ⟨⟨fun x hx y hy => h.1.1 x hx y hy, fun x hx e => ?_⟩, h.2⟩
  have := h.1.2 x hx
  rw [e] at this
  cases this
theorem vals_get {vs : List V} {us : List Value} (r : Vals vs us) {i : Nat} {u : Value} (h : us[i]? = some u) : ∃ v, vs[i]? = some v ∧ RelV v u := by
  induction r generalizing i with
  | nil => simp at h
  | cons a b ih =>
    cases i with
    | zero => simp at h; subst h; exact ⟨_, rfl, a⟩
    | succ i => simpa using ih (by simpa using h)
/-- an item that was picked -/
theorem picked {W : XK} {m : Bool} {pins : List (Addr × Obj)} {s : Shared} {σ : L2.St} {H F : Hp} {α : List Addr} {M : Ms} {Q : VK} (I : Inv X pins σ H s) (R : Rp G F α M H) {vs : List V} {us : List Value} {ds : List PyData} (g : DqAll F vs ds) (rv : Vals vs us) {z : PyData}
    (h : WpE G W m F α H (Rs.ok (.d z) M) Q) (n : m = true → False) {i : Nat} {v : Value} {h' : Heap} {tk : Nat} {bs : List Addr} (hi : us[i]? = some v) (hr : Reads h' v z bs) (hk : ∀ b o, s.heap.get? b = some o → h'.get? b = some o) : EP X pins σ Q v { s with heap := h', toks := tk } := by
  obtain ⟨y, hy, ry⟩ := vals_get rv hi
  obtain ⟨d, hd, rd⟩ := DqAll.get' g hy
  obtain ⟨as, r1⟩ := Dp.reads I d y v (rd.dp R.sub) ry
  obtain ⟨rfl, _⟩ := PyProof.Rows.reads_det (fun b o e _ => hk b o e) r1 hr
  refine ⟨y, H, I.kept hk, ry, ?_⟩
  cases m with
  | false => exact h.done R rd
  | true => exact (n rfl).elim
theorem each_of {F : Hp} : ∀ {vs : List V} {us : List Value} {xs : List PyData}, Vals vs us → DqAll F vs xs → PySem.W.EachIs (fun u d => ∃ v, RelV v u ∧ Dq F v d) us xs
  | _, _, _, .nil, .nil => .nil
  | _, _, _, .cons r rs, .cons g gs => .cons ⟨_, r, g⟩ (each_of rs gs)
theorem each_back {F : Hp} : ∀ {us : List Value} {xs : List PyData}, PySem.W.EachIs (fun u d => ∃ v, RelV v u ∧ Dq F v d) us xs → ∃ vs, Vals vs us ∧ DqAll F vs xs
  | _, _, .nil => ⟨[], .nil, .nil⟩
  | _, _, .cons ⟨v, r, g⟩ t => by
    obtain ⟨vs, rs, gs⟩ := each_back t
    exact ⟨v :: vs, .cons r rs, .cons g gs⟩
theorem depth_in : ∀ {xs : List PyData} {x : PyData}, x ∈ xs → x.depth ≤ PyData.depthAll xs
  | y :: xs, x, h => by
    rw [PyData.depthAll]
    rcases List.mem_cons.mp h with rfl | h
    · exact Nat.le_max_left _ _
    · exact Nat.le_trans (depth_in h) (Nat.le_max_right _ _)
theorem sortB_ok {xs : List PyData} (h : sortB xs = true) : PySem.W.AllAlike (xs.map id) ∧ PySem.W.Sortable (xs.map id) ∧ xs.length ≤ sizeLine ∧ ∀ x ∈ xs, x.depth ≤ 60 := by
  unfold sortB at h
  simp only [Bool.and_eq_true, decide_eq_true_eq] at h
  obtain ⟨⟨hl, hs⟩, hn⟩ := h
  have ha := likes_all hl
  rw [List.map_id]
  refine ⟨fun x hx y hy => ha.1.1 x hx y hy, ?_, by rw [sizeLine_eq]; exact hn, fun x hx => Nat.le_trans (depth_in hx) ha.2⟩
  rcases (Bool.or_eq_true _ _).mp hs with q | q
  · refine .inl fun x hx => ?_
    have z := List.all_eq_true.mp q x hx
    unfold isT1 at z
    split at z
    · exact ⟨_, _, rfl⟩
    · cases z
  · refine .inr fun x hx => ⟨ha.1.2 x hx, fun ys e => ?_⟩
    have z := List.all_eq_true.mp q x hx
    rw [e] at z
    cases z
theorem sorted_ok (C : Cok G T N call W X s0 sc) {m : Bool} {pins : List (Addr × Obj)} {s : Shared} {σ : L2.St} {H : Hp} {Q : VK} (I : Inv X pins σ H s) {F : Hp} {α : List Addr} {M : Ms} (R : Rp G F α M H) {a : Addr} {vs : List V} {xs : List PyData} (hS : SqL X.K H a vs) (g : DqAll F vs xs)
    (hs : sortB xs = true) (h : WpE G W m F α H (Rs.ok (.d (.list (xs.mergeSort (PySem.W.dataLe false id)))) M) Q) : wpAny (model X.prog X.w) X.A (PySem.call (.builtin "sorted") [.ref a]) (EP X pins σ Q) X.xe s := by
  obtain ⟨hal, hk, hL, hd⟩ := sortB_ok hs
  obtain ⟨its, rvs, p, hz⟩ := I.list hS
  have e := each_of rvs g
  have hu := C.un
  refine PySem.W.sorted_data (enc := id) (bs := xs) p.isList e (e.mono ?_) hal hk hL ?_ fun out ho eo => ?_
  · rintro u d ⟨v, r, q⟩
    exact Dp.reads I d v u (q.dp R.sub) r
  · intro x hx
    have := hd x hx
    show X.A.units + 2 + x.depth < cLine
    omega
  · obtain ⟨ys, ry, gy⟩ := each_back eo
    obtain ⟨n, hn⟩ := sortedAll_at s.heap its out.toArray
    have hl : ys.length ≤ sizeLine := by rw [ry.length, ho]; exact hL
    exact ⟨.ref _, upd H _ (.lst ys), I.laid (t' := s.toks) (fun b o z => sortedAll_old z) (Nat.le_succ _) ⟨hl, out, n, ry, hn⟩, rfl, h.list R (I.hok.fresh (Nat.le_succ _)) gy⟩
theorem reprB_ok {x : PyData} (h : reprB x = true) : x.showable = true ∧ x.hasDict = false ∧ x.shown.length ≤ sizeLine ∧ x.depth ≤ 60 := by
  unfold reprB at h
  simp only [Bool.and_eq_true, decide_eq_true_eq, Bool.not_eq_true'] at h
  obtain ⟨⟨⟨a, b⟩, c⟩, d⟩ := h
  exact ⟨a, b, by rw [sizeLine_eq]; exact c, d⟩
theorem repr_ok (C : Cok G T N call W X s0 sc) {pins : List (Addr × Obj)} {s : Shared} {σ : L2.St} {H : Hp} {Q : VK} (I : Inv X pins σ H s) {u : Value} {x : PyData} {as : List Addr} (r : Reads s.heap u x as) (hx : reprB x = true) (q : Q (.str x.shown) H) :
    wpAny (model X.prog X.w) X.A (PySem.call (.builtin "repr") [u]) (EP X pins σ Q) X.xe s := by
  obtain ⟨hs, hd, hl, hp⟩ := reprB_ok hx
  have hu := C.un
  have ref : ∀ a, u = .ref a → wpAny (model X.prog X.w) X.A (PySem.call (.builtin "repr") [u]) (EP X pins σ Q) X.xe s := by
    rintro a rfl
    exact PySem.repr_of_reads' r hs (fun z => by rw [hd] at z; cases z) C.gd (by omega) (fun _ _ z => z) (fun h' u tk hk => ⟨.str x.shown, H, I.kept hk, ⟨_, rfl⟩, q⟩) hl
  cases r with
  | none => exact PySem.P.repr_of_none ⟨.str _, H, I.tok _, ⟨_, rfl⟩, q⟩
  | bool b =>
    have e : (PyData.bool b).shown = if b then Str.ofString "True" else Str.ofString "False" := by rw [PyData.shown]
    rw [e] at q
    exact PySem.P.repr_of_bool ⟨.str _, H, I.tok _, ⟨_, rfl⟩, q⟩
  | int i t =>
    have e : (PyData.int i).shown = toString i := by rw [PyData.shown]
    rw [e] at q
    exact PySem.P.repr_of_int (by simpa [PyData.showable] using hs) ⟨.str _, H, I.tok _, ⟨_, rfl⟩, q⟩
  | str y t =>
    have e : (PyData.str y).shown = reprText y := by rw [PyData.shown]
    rw [e] at q hl
    exact PySem.P.repr_of_str ⟨.str _, H, I.tok _, ⟨_, rfl⟩, q⟩ hl
  | list _ _ _ _ => exact ref _ rfl
  | tuple _ _ _ _ => exact ref _ rfl
  | _ => exact ref _ rfl
theorem bltn_ok (C : Cok G T N call W X s0 sc) (b : Bt) (m : Bool) (hb : m = true → b ≠ .min ∧ b ≠ .max) {pins : List (Addr × Obj)} {s : Shared} {σ : L2.St} {H : Hp} {xs : List V} {us : List Value} {Q : VK} (I : Inv X pins σ H s) (r : Vals xs us)
    {F : Hp} {α : List Addr} {M : Ms} {ds : List D} {ps : List PyData} {z : PyData} (R : Rp G F α M H) (rs : RVs G F α ds xs) (hv : viewAll M ds = some ps) (e : bltn b ps = some z)
    (h : WpE G W m F α H (Rs.ok (.d z) M) Q) : wpAny (model X.prog X.w) X.A (PySem.call (btVal b) us) (EP X pins σ Q) X.xe s := by
  have hc := C.calm
  unfold bltn at e
  split at e
  · cases e
    obtain ⟨d, rfl, hd⟩ := viewAll1 hv
    obtain ⟨v, rfl, rv⟩ := RVs.one rs
    obtain ⟨a, vs, rfl, f1, h1, g⟩ := R.viewT rv hd
    refine call_len_seq pins s σ H _ us Q I r ⟨a, vs, rfl, .inr (.inl (.inl h1)), ?_⟩
    rw [DqAll.length g]
    exact h.flat (fun _ z => by cases z) R (.int _)
  · cases e
    obtain ⟨d, rfl, hd⟩ := viewAll1 hv
    obtain ⟨v, rfl, rv⟩ := RVs.one rs
    obtain ⟨a, vs, rfl, h1, g⟩ := R.viewL rv hd
    refine call_len_seq pins s σ H _ us Q I r ⟨a, vs, rfl, .inl (.inl h1), ?_⟩
    rw [DqAll.length g]
    exact h.flat (fun _ z => by cases z) R (.int _)
  · cases e
    obtain ⟨d, rfl, hd⟩ := viewAll1 hv
    obtain ⟨v, rfl, rv⟩ := RVs.one rs
    cases R.viewI rv hd
    exact call_abs pins s σ H _ us Q I r ⟨_, rfl, h.flat (fun _ z => by cases z) R (.int _)⟩
  · cases e
    obtain ⟨d, d', rfl, hd, hd'⟩ := viewAll2 hv
    obtain ⟨v, v', rfl, rv, rv'⟩ := RVs.two rs
    cases R.viewI rv hd
    cases R.viewI rv' hd'
    exact call_min2 hc pins s σ H _ us Q I r ⟨_, _, rfl, h.flat (fun _ z => by cases z) R (.int _)⟩
  · cases e
    obtain ⟨d, d', rfl, hd, hd'⟩ := viewAll2 hv
    obtain ⟨v, v', rfl, rv, rv'⟩ := RVs.two rs
    cases R.viewI rv hd
    cases R.viewI rv' hd'
    exact call_max2 hc pins s σ H _ us Q I r ⟨_, _, rfl, h.flat (fun _ z => by cases z) R (.int _)⟩
  · cases e
    obtain ⟨d, rfl, hd⟩ := viewAll1 hv
    obtain ⟨v, rfl, rv⟩ := RVs.one rs
    obtain ⟨a, vs, rfl, h1, g⟩ := R.viewL rv hd
    exact call_tuple_of pins s σ H _ us Q I r ⟨a, vs, rfl, .inl ⟨.inl h1, fun p hp => h.tupM R hp g⟩⟩
  · cases e
    obtain ⟨d, rfl, hd⟩ := viewAll1 hv
    obtain ⟨v, rfl, rv⟩ := RVs.one rs
    obtain ⟨a, vs, rfl, f1, h1, g⟩ := R.viewT rv hd
    exact call_tuple_of pins s σ H _ us Q I r ⟨a, vs, rfl, .inr ⟨.inl (.inl h1), h.flat (fun _ z => by cases z) R (.tup f1 g)⟩⟩
  · cases e
    obtain ⟨d, rfl, hd⟩ := viewAll1 hv
    obtain ⟨v, rfl, rv⟩ := RVs.one rs
    obtain ⟨a, vs, rfl, h1, g⟩ := R.viewL rv hd
    exact call_list_of pins s σ H _ us Q I r ⟨a, vs, rfl, .inl (.inl h1), fun p hp => h.list R hp g⟩
  · cases e
    obtain ⟨d, rfl, hd⟩ := viewAll1 hv
    obtain ⟨v, rfl, rv⟩ := RVs.one rs
    obtain ⟨a, vs, rfl, f1, h1, g⟩ := R.viewT rv hd
    exact call_list_of pins s σ H _ us Q I r ⟨a, vs, rfl, .inr (.inl (.inl h1)), fun p hp => h.list R hp g⟩
  · simp only [Option.map_eq_some_iff] at e
    obtain ⟨bs, e, rfl⟩ := e
    obtain ⟨d, rfl, hd⟩ := viewAll1 hv
    obtain ⟨v, rfl, rv⟩ := RVs.one rs
    obtain ⟨a, vs, rfl, h1, g⟩ := R.viewL rv hd
    cases bools_vs g e
    exact cr_all hc pins s σ H _ us Q I r ⟨a, bs, rfl, .inl h1, h.flat (fun _ z => by cases z) R (.bl _)⟩
  · simp only [Option.map_eq_some_iff] at e
    obtain ⟨bs, e, rfl⟩ := e
    obtain ⟨d, rfl, hd⟩ := viewAll1 hv
    obtain ⟨v, rfl, rv⟩ := RVs.one rs
    obtain ⟨a, vs, rfl, h1, g⟩ := R.viewL rv hd
    cases bools_vs g e
    exact cr_any hc pins s σ H _ us Q I r ⟨a, bs, rfl, .inl h1, h.flat (fun _ z => by cases z) R (.bl _)⟩
  · simp only [Option.map_eq_some_iff] at e
    obtain ⟨bs, e, rfl⟩ := e
    obtain ⟨d, rfl, hd⟩ := viewAll1 hv
    obtain ⟨v, rfl, rv⟩ := RVs.one rs
    obtain ⟨a, vs, rfl, h1, g⟩ := R.viewL rv hd
    cases ints_vs g e
    exact cr_sum hc pins s σ H _ us Q I r ⟨a, bs, rfl, .inl h1, h.flat (fun _ z => by cases z) R (.int _)⟩
  · cases e
    obtain ⟨d, rfl, hd⟩ := viewAll1 hv
    obtain ⟨v, rfl, rv⟩ := RVs.one rs
    cases R.viewI rv hd
    exact call_int1 pins s σ H _ us Q I r (.inl ⟨_, rfl, h.flat (fun _ z => by cases z) R (.int _)⟩)
  · cases e
    obtain ⟨d, rfl, hd⟩ := viewAll1 hv
    obtain ⟨v, rfl, rv⟩ := RVs.one rs
    cases R.viewB rv hd
    exact call_int1 pins s σ H _ us Q I r (.inr ⟨_, rfl, h.flat (fun _ z => by cases z) R (.int _)⟩)
  · split at e
    · rename_i hl
      cases e
      obtain ⟨d, rfl, hd⟩ := viewAll1 hv
      obtain ⟨v, rfl, rv⟩ := RVs.one rs
      cases R.viewI rv hd
      exact call_str_int pins s σ H _ us Q I r ⟨_, rfl, hl, h.flat (fun _ z => by cases z) R (.str _)⟩
    · cases e
  · split at e
    · rename_i hl
      cases e
      obtain ⟨ha, hdp⟩ := likes_all hl
      obtain ⟨d, rfl, hd⟩ := viewAll1 hv
      obtain ⟨v, rfl, rv⟩ := RVs.one rs
      obtain ⟨a, vs, rfl, h1, g⟩ := R.viewL rv hd
      obtain ⟨u, rfl, ru⟩ := r.one
      cases ru
      obtain ⟨its, rvs, p, hz⟩ := I.list (show SqL X.K H a vs from .inl h1)
      obtain ⟨as, hr⟩ := Dp.readsAll I _ vs its (g.dp R.sub) rvs
      have hu : X.A.units + 1 + PyData.depthAll _ < cLine := Nat.lt_of_le_of_lt (Nat.add_le_add_left hdp _) (by have := C.un; omega)
      exact PySem.W.min_list_data (I.ok.hd hc) p.isList (by simpa using hr) ha hu fun i v h' tk bs hi hr2 hk => picked I R g rvs h (fun z => absurd rfl (hb z).1) (by simpa using hi) hr2 hk
    · cases e
  · split at e
    · rename_i hl
      cases e
      obtain ⟨ha, hdp⟩ := likes_all hl
      obtain ⟨d, rfl, hd⟩ := viewAll1 hv
      obtain ⟨v, rfl, rv⟩ := RVs.one rs
      obtain ⟨a, vs, rfl, f1, h1, g⟩ := R.viewT rv hd
      obtain ⟨u, rfl, ru⟩ := r.one
      cases ru
      obtain ⟨its, rvs, p, hz⟩ := I.tuple (show SqT X.K H a vs from .inl (.inl h1))
      obtain ⟨as, hr⟩ := Dp.readsAll I _ vs its (g.dp R.sub) rvs
      have hu : X.A.units + 1 + PyData.depthAll _ < cLine := Nat.lt_of_le_of_lt (Nat.add_le_add_left hdp _) (by have := C.un; omega)
      exact PySem.W.min_tuple_data (I.ok.hd hc) (show s.heap.IsTuple a its.toArray from p) (by simpa using hr) ha hu fun i v h' tk bs hi hr2 hk => picked I R g rvs h (fun z => absurd rfl (hb z).1) (by simpa using hi) hr2 hk
    · cases e
  · split at e
    · rename_i hl
      cases e
      obtain ⟨ha, hdp⟩ := likes_all hl
      obtain ⟨d, rfl, hd⟩ := viewAll1 hv
      obtain ⟨v, rfl, rv⟩ := RVs.one rs
      obtain ⟨a, vs, rfl, h1, g⟩ := R.viewL rv hd
      obtain ⟨u, rfl, ru⟩ := r.one
      cases ru
      obtain ⟨its, rvs, p, hz⟩ := I.list (show SqL X.K H a vs from .inl h1)
      obtain ⟨as, hr⟩ := Dp.readsAll I _ vs its (g.dp R.sub) rvs
      have hu : X.A.units + 1 + PyData.depthAll _ < cLine := Nat.lt_of_le_of_lt (Nat.add_le_add_left hdp _) (by have := C.un; omega)
      exact PySem.W.max_list_data (I.ok.hd hc) p.isList (by simpa using hr) ha hu fun i v h' tk bs hi hr2 hk => picked I R g rvs h (fun z => absurd rfl (hb z).2) (by simpa using hi) hr2 hk
    · cases e
  · split at e
    · rename_i hl
      cases e
      obtain ⟨ha, hdp⟩ := likes_all hl
      obtain ⟨d, rfl, hd⟩ := viewAll1 hv
      obtain ⟨v, rfl, rv⟩ := RVs.one rs
      obtain ⟨a, vs, rfl, f1, h1, g⟩ := R.viewT rv hd
      obtain ⟨u, rfl, ru⟩ := r.one
      cases ru
      obtain ⟨its, rvs, p, hz⟩ := I.tuple (show SqT X.K H a vs from .inl (.inl h1))
      obtain ⟨as, hr⟩ := Dp.readsAll I _ vs its (g.dp R.sub) rvs
      have hu : X.A.units + 1 + PyData.depthAll _ < cLine := Nat.lt_of_le_of_lt (Nat.add_le_add_left hdp _) (by have := C.un; omega)
      exact PySem.W.max_tuple_data (I.ok.hd hc) (show s.heap.IsTuple a its.toArray from p) (by simpa using hr) ha hu fun i v h' tk bs hi hr2 hk => picked I R g rvs h (fun z => absurd rfl (hb z).2) (by simpa using hi) hr2 hk
    · cases e
  · split at e
    · rename_i hs
      cases e
      obtain ⟨d, rfl, hd⟩ := viewAll1 hv
      obtain ⟨v, rfl, rv⟩ := RVs.one rs
      obtain ⟨a, vs, rfl, h1, g⟩ := R.viewL rv hd
      obtain ⟨u, rfl, ru⟩ := r.one
      cases ru
      exact sorted_ok C I R (.inl h1) g hs h
    · cases e
  · split at e
    · rename_i hs
      cases e
      obtain ⟨d, rfl, hd⟩ := viewAll1 hv
      obtain ⟨v, rfl, rv⟩ := RVs.one rs
      obtain ⟨u, rfl, ru⟩ := r.one
      obtain ⟨as, hr⟩ := Dp.reads I _ v u (R.viewDp rv hd) ru
      exact repr_ok C I hr hs (h.flat (fun _ z => by cases z) R (.str _))
    · cases e
  · cases e
    obtain ⟨d, d', rfl, hd, hd'⟩ := viewAll2 hv
    obtain ⟨v, v', rfl, rv, rv'⟩ := RVs.two rs
    cases R.viewI rv hd
    cases R.viewI rv' hd'
    exact cr_gcd pins s σ H _ us Q I r ⟨_, _, rfl, h.flat (fun _ z => by cases z) R (.int _)⟩
  · cases e
theorem blt_ok (C : Cok G T N call W X s0 sc) (b : Bt) (m : Bool) (hb : m = true → b ≠ .min ∧ b ≠ .max) : CallR X (btVal b) (rBt G W b m) := by
  intro pins s σ H xs us Q I r h
  obtain ⟨F, α, M, ds, R, rs, h⟩ := h
  have hc := C.calm
  cases ez : callOp b ds M with
  | none => rw [ez] at h; exact h.elim
  | some z =>
  rw [ez] at h
  have h : WpE G W m F α H (Rs.ok (.d z) M) Q := h
  unfold callOp at ez
  split at ez
  · cases ez
    obtain ⟨v, rfl, a, vs, rfl, hs, g⟩ := RVs.one rs
    exact call_list_of pins s σ H _ us Q I r ⟨a, vs, rfl, .inl (by rw [C.kk]; exact R.sub.seq hs), fun p hp => h.list R hp g⟩
  · rename_i n
    cases q : M[n]? with
    | none => simp [q] at ez
    | some mo =>
      rw [q] at ez
      cases mo with
      | dK kvs =>
        simp only at ez
        split at ez
        · rename_i hl
          simp only [Option.map_eq_some_iff] at ez
          obtain ⟨ks, ek, rfl⟩ := ez
          obtain ⟨v, rfl, a, ha, rfl⟩ := RVs.one rs
          obtain ⟨ws, e, g⟩ := R.ok n a _ ha q
          have hk := ints_keys ek
          have hl2 : ks.length < 64 := by
            have := congrArg List.length hk
            simp at this
            omega
          refine call_sortedDI hc pins s σ H _ us Q I r ⟨a, ws, ks, rfl, .inl e, by rw [kv_keys g]; exact hk, hl2, fun ys p hp hs hn => ?_⟩
          rw [perm_sorted hp hs]
          exact h.list R hn (dqAll_ints _)
        · cases ez
      | _ => cases ez
  · rename_i n
    cases q : M[n]? with
    | none => simp [q] at ez
    | some mo =>
      obtain ⟨v, rfl, a, ha, rfl⟩ := RVs.one rs
      have z := R.ok n a _ ha q
      rw [q] at ez
      cases mo with
      | lst ys =>
        cases ez
        obtain ⟨vs, e, g⟩ := z
        refine call_len_seq pins s σ H _ us Q I r ⟨a, vs, rfl, .inl (.inl (.inl e)), ?_⟩
        rw [DqAll.length g]
        exact h.flat (fun _ z => by cases z) R (.int _)
      | zL ys =>
        cases ez
        obtain ⟨o, vs, e, g⟩ := z
        refine call_len_seq pins s σ H _ us Q I r ⟨a, vs, rfl, .inl (.inl (.inr ⟨o, e⟩)), ?_⟩
        rw [DqAll.length g]
        exact h.flat (fun _ z => by cases z) R (.int _)
      | dK kvs =>
        cases ez
        obtain ⟨ws, e, g⟩ := z
        refine call_lenD pins s σ H _ us Q I r ⟨a, ws, rfl, e, ?_⟩
        rw [show ws.length = kvs.length from Paired.length g]
        exact h.flat (fun _ z => by cases z) R (.int _)
      | _ => cases ez
  · split at ez
    · rename_i ps hv
      exact bltn_ok C b m hb I r R rs hv ez h
    · cases ez
end
end Ob

set_option Elab.async false
set_option linter.all false
set_option maxRecDepth 100000
set_option maxHeartbeats 1000000
namespace Ob
open PySem PySem.Spec PyProof.Rows L2
section
variable {G : Gx} {T : Tab} {N : List Str} {call : Nat → List D → Ms → Rs D} {W : XK} {X : Cx} {s0 sc : Scope}
/-! ### a[b] -/
def ixD (x y : D) (M : Ms) : Rs D := match view M x, y with
  | some x, .d i => Rs.of ((idx x i).map .d) M
  | none, .d i => match dlook M x i with
    | some (some v) => Rs.ok (.d v) M
    | _ => none
  | _, _ => none
theorem atI_dq {F : Hp} {vs : List V} {xs : List PyData} {i : Int} {z : PyData} (g : DqAll F vs xs) (h : atI xs i = some z) : ∃ v, atI vs i = some v ∧ Dq F v z := by
  unfold atI at h ⊢
  rw [DqAll.length g]
  cases e : ixN xs.length i with
  | none => rw [e] at h; cases h
  | some j =>
    rw [e] at h
    exact DqAll.get g h
theorem ix_ok (C : Cok G T N call W X s0 sc) : IxR X (fun x y H Q => ∃ F α M d1 d2, Rp G F α M H ∧ RV G F α d1 x ∧ RV G F α d2 y ∧ WpE G W false F α H (ixD d1 d2 M) Q) := by
  intro value slice pins s σ H x y v u Q I rx ry h hs
  obtain ⟨F, α, M, d1, d2, R, r1, r2, h⟩ := h
  unfold ixD at h
  split at h
  · rename_i p i hp
    cases e : idx p i with
    | none => rw [e] at h; exact h.elim
    | some z =>
      rw [e] at h
      have h : WpE G W false F α H (Rs.ok (.d z) M) Q := h
      unfold idx at e
      split at e
      · obtain ⟨a, vs, rfl, f1, h1, g⟩ := R.viewT r1 hp
        cases r2
        obtain ⟨w, hw, rw'⟩ := atI_dq g e
        exact ix_tup value slice pins s σ H _ _ v u Q I rx ry ⟨a, vs, _, w, rfl, rfl, .inl (.inl h1), hw, h.done R rw'⟩ hs
      · obtain ⟨a, vs, rfl, h1, g⟩ := R.viewL r1 hp
        cases r2
        obtain ⟨w, hw, rw'⟩ := atI_dq g e
        exact ix_list value slice pins s σ H _ _ v u Q I rx ry ⟨a, vs, _, w, rfl, rfl, .inl h1, hw, h.done R rw'⟩ hs
      · cases e
  · rename_i i hp
    cases e : dlook M d1 i with
    | none => rw [e] at h; exact h.elim
    | some o =>
      cases o with
      | none => rw [e] at h; exact h.elim
      | some z =>
        rw [e] at h
        obtain ⟨a, ov, rfl, g, w, rfl, rw'⟩ := dlook_get C R r1 r2 e
        obtain rfl : v = Value.ref a := rx
        have hT := dict_typeIs I g
        have hu1 : X.A.units + 1 < cLine := by have := C.un; omega
        have fin : wpAny (model X.prog X.w) X.A (subscripted slice false (.ref a) u) (fun r s₃ => wpAny (model X.prog X.w) X.A (letTemporaryGo value (.ref a) r >>= fun _ => pure r) (EP X pins σ Q) X.xe s₃) X.xe s := by
          rw [hs]
          exact wpAny_operating (d_getItem hu1 I g ry fun w' s3 I3 rw2 => wpAny_bind (wpAny_letTemporaryGo (wpAny_pure ⟨w, H, I3, rw2, h.done R rw'⟩)))
        unfold subscriptTail
        refine wpAny_bind ?_
        rw [getitemInPython_of_ne hT.not_modules]
        refine wpAny_bind (wpAny_specialOf hT PySem.F.slot_dict_getitem.lookup ?_)
        first
          | exact wpAny_pure (wpAny_bind fin)
          | exact wpAny_bind (wpAny_pure (wpAny_bind fin))
          | exact wpAny_bind fin
  · exact h.elim
/-! ### slices -/
theorem cut_dq {F : Hp} {vs : List V} {xs : List PyData} (l h : Option Int) (g : DqAll F vs xs) : DqAll F (cutV vs l h) (cutI xs l h) := by
  unfold cutV cutI
  rw [DqAll.length g]
  exact DqAll.take _ (DqAll.drop _ g)
theorem sl_ok (C : Cok G T N call W X s0 sc) (m : Bool) : SlR X (fun x lo hi H Q => ∃ F α M d, Rp G F α M H ∧ RV G F α d x ∧ WpE G W m F α H (slD d lo hi M) Q) := by
  intro pins s σ H x v vl vu lo hi sl Q I rx hs pl pu h
  obtain ⟨F, α, M, d, R, r, h⟩ := h
  unfold slD at h
  split at h
  · rename_i xs hd
    obtain ⟨a, vs, rfl, f1, h1, g⟩ := R.viewT r hd
    refine sl_tupA pins s σ H _ v vl vu lo hi sl Q I rx hs pl pu ⟨a, vs, rfl, .inl (.inl h1), fun hw => ?_, fun _ p hp => ?_⟩
    · have e : cutI xs lo hi = xs := by
        unfold cutI
        rw [← DqAll.length g, hw.1, hw.2]
        simp [DqAll.length g]
      rw [e] at h
      exact h.flat (fun _ z => by cases z) R (.tup f1 g)
    · exact h.tupM R hp (cut_dq lo hi g)
  · rename_i xs hd
    obtain ⟨a, vs, rfl, h1, g⟩ := R.viewL r hd
    exact sl_list pins s σ H _ v vl vu lo hi sl Q I rx hs pl pu ⟨a, vs, rfl, .inl h1, fun p hp => h.list R hp (cut_dq lo hi g)⟩
  · exact h.elim
/-! ### what is walked -/
/-- J walks the items xs, whatever grows beside, while Gd holds -/
structure ItOk (G : Gx) (F : Hp) (α : List Addr) (J : It) (xs : List D) (Gd : Hp → Prop) : Prop where
  go : ∀ i H, i < xs.length → Gd H → J.go i H
  stop : ∀ H, Gd H → J.stop xs.length H
  yld : ∀ i H x H', i < xs.length → Gd H → J.yld i H x H' → ∃ d, xs[i]? = some d ∧ ((H' = H ∧ RV G F α d x) ∨ (∃ t vs ds, H t = none ∧ x = .ref t ∧ H' = upd H t (.tup vs) ∧ d = .d (.tuple ds) ∧ DqAll F vs ds) ∨
    ∃ t ks, H' = H ∧ x = .ref t ∧ H t = some (.tup (List.map kV ks)) ∧ d = .d (.tuple (ks.map keyD)))
/-- the reading of a thing that is walked -/
def tevI (G : Gx) (W : XK) (call : Nat → List D → Ms → Rs D) (e : E) : TI := fun σ H R => ∃ F α ρ M, Rp G F α M H ∧ Sl G F α ρ σ ∧
  (match ev call e ρ M with
  | none => False
  | some (.error x) => exP G W x F α H
  | some (.ok (d, M')) => ∃ xs, itemsOf d = some xs ∧ ∀ F' J H', Same F F' → Rp G F' α M' H' → Stp F F' α α H H' → ItOk G F' α J xs (Same F') → xs.length ≤ sizeLine → R J H')
/-- a list or a tuple, walked -/
theorem pi_seq {tg l : Expr} {tl : TE} (hl : PE X l tl) : PI X tg l (fun σ H R => tl σ H fun x H1 => ∃ a vs, x = .ref a ∧ ((SqL X.K H1 a vs ∧ (vs.length ≤ sizeLine → R (Itl X.K a) H1)) ∨ (SqT X.K H1 a vs ∧ (vs.length ≤ sizeLine → R (Itt X.K a) H1)))) := by
  refine ⟨fun pins s σ H R I h => ?_⟩
  refine thn (hl.run pins s σ H _ I h) fun v s1 ⟨x, H1, I1, r1, q1⟩ => ?_
  obtain ⟨a, xs, e, q1⟩ := q1
  subst e
  cases r1
  rcases q1 with ⟨hq, q⟩ | ⟨hq, q⟩
  · obtain ⟨its, rv, p, hz⟩ := I1.list hq
    refine wpAny_pyIter_list p.isList ?_
    refine ⟨s1.heap.objs.size, [s1.heap.objs.size], _, _, H1, rfl, I1.kept (t' := s1.toks) fun b o e => Heap.get?_push_of_some _ e, turn_list a _, ⟨_, Heap.get?_push_size _ rfl, rfl, rfl⟩, fun b hb => ?_, q hz⟩
    have e : b = s1.heap.objs.size := by simpa using hb
    subst e
    exact I1.fpOk (Nat.le_refl _) (I1.hok.fresh (Nat.le_refl _))
  · obtain ⟨its, rv, p, hz⟩ := I1.tuple hq
    refine wpAny_pyIter_tuple (show s1.heap.IsTuple a its.toArray from p) ?_
    refine ⟨s1.heap.objs.size, [s1.heap.objs.size], _, _, H1, rfl, I1.kept (t' := s1.toks) fun b o e => Heap.get?_push_of_some _ e, turn_tuple a _, ⟨_, Heap.get?_push_size _ rfl, rfl, rfl⟩, fun b hb => ?_, q hz⟩
    have e : b = s1.heap.objs.size := by simpa using hb
    subst e
    exact I1.fpOk (Nat.le_refl _) (I1.hok.fresh (Nat.le_refl _))
theorem PI.imp {tg it : Expr} {t t' : TI} (h : PI X tg it t) (i : ∀ σ H R, t' σ H R → t σ H R) : PI X tg it t' := ⟨fun pins s σ H R I q => h.run pins s σ H R I (i σ H R q)⟩
theorem it_list {F : Hp} {α : List Addr} {a : Addr} {vs : List V} {xs : List PyData} (h : F a = some (.lst vs)) (g : DqAll F vs xs) : ItOk G F α (Itl G.K a) (xs.map .d) (Same F) := by
  have w := walk_list (K := G.K) (a := a) (xs := vs)
  have l := DqAll.length g
  refine ⟨fun i H hi s => w.goes i H (by rw [l]; simpa using hi) (.inl (.inl (s _ _ h))), fun H s => ?_, fun i H x H' hi s y => ?_⟩
  · have := w.stops H (.inl (.inl (s _ _ h)))
    rw [l] at this
    simpa using this
  · obtain ⟨e, hx⟩ := w.yields i H x H' (by rw [l]; simpa using hi) (.inl (.inl (s _ _ h))) y
    obtain ⟨d, hd, r⟩ := DqAll.get' g hx
    exact ⟨.d d, by simp [hd], .inl ⟨e, r⟩⟩
theorem it_tup {F : Hp} {α : List Addr} {a : Addr} {vs : List V} {xs : List PyData} (h : F a = some (.tup vs)) (g : DqAll F vs xs) : ItOk G F α (Itt G.K a) (xs.map .d) (Same F) := by
  have w := walk_tup (K := G.K) (a := a) (xs := vs)
  have l := DqAll.length g
  refine ⟨fun i H hi s => w.goes i H (by rw [l]; simpa using hi) (.inl (.inl (s _ _ h))), fun H s => ?_, fun i H x H' hi s y => ?_⟩
  · have := w.stops H (.inl (.inl (s _ _ h)))
    rw [l] at this
    simpa using this
  · obtain ⟨e, hx⟩ := w.yields i H x H' (by rw [l]; simpa using hi) (.inl (.inl (s _ _ h))) y
    obtain ⟨d, hd, r⟩ := DqAll.get' g hx
    exact ⟨.d d, by simp [hd], .inl ⟨e, r⟩⟩
theorem it_rangeC {F : Hp} {α : List Addr} {lo c : Int} {n : Nat} {xs : List D} (h : xs = (List.range n).map fun i => .d (.int (lo + (i : Nat) * c))) : ItOk G F α (Itc lo c n) xs (Same F) := by
  have w := walk_rangeC (lo := lo) (c := c) (n := n)
  subst h
  refine ⟨fun i H hi s => w.goes i H (by simpa using hi) trivial, fun H s => ?_, fun i H x H' hi s y => ?_⟩
  · have := w.stops H trivial
    simpa using this
  · obtain ⟨e, hx⟩ := w.yields i H x H' (by simpa using hi) trivial y
    have hi' : i < n := by simpa using hi
    exact ⟨.d (.int (lo + (i : Nat) * c)), by simp [hi'], .inl ⟨e, by rw [hx]; exact .int _⟩⟩
theorem it_range {F : Hp} {α : List Addr} {lo : Int} {n : Nat} {xs : List D} (h : xs = (List.range n).map fun i => .d (.int (lo + (i : Nat)))) : ItOk G F α (Itr lo n) xs (Same F) := by
  have w := walk_range (lo := lo) (n := n)
  subst h
  refine ⟨fun i H hi s => w.goes i H (by simpa using hi) trivial, fun H s => ?_, fun i H x H' hi s y => ?_⟩
  · have := w.stops H trivial
    simpa using this
  · obtain ⟨e, hx⟩ := w.yields i H x H' (by simpa using hi) trivial y
    have hi' : i < n := by simpa using hi
    exact ⟨.d (.int (lo + (i : Nat))), by simp [hi'], .inl ⟨e, by rw [hx]; exact .int _⟩⟩
theorem pairs_length : ∀ (xs ys : List PyData), (pairs xs ys).length = min xs.length ys.length
  | [], ys => by simp [pairs]
  | x :: xs, [] => by simp [pairs]
  | x :: xs, y :: ys => by
    have := pairs_length xs ys
    simp only [pairs, List.length_cons, this]
    omega
theorem pairs_get : ∀ {xs ys : List PyData} {i : Nat} {x y : PyData}, xs[i]? = some x → ys[i]? = some y → (pairs xs ys)[i]? = some (.d (.tuple [x, y]))
  | [], _, i, _, _, h, _ => by simp at h
  | _ :: _, [], i, _, _, _, h => by simp at h
  | a :: xs, b :: ys, 0, x, y, h, g => by simp at h g; subst h g; rfl
  | a :: xs, b :: ys, i + 1, x, y, h, g => by simpa [pairs] using pairs_get (xs := xs) (ys := ys) (i := i) (by simpa using h) (by simpa using g)
theorem it_pair {F : Hp} {α : List Addr} {J : It} {Gd : Hp → Prop} {n : Nat} {vs ws : List V} {xs ys : List PyData} (w : Walk J n Gd (YPair (fun i => vs[i]?) (fun i => ws[i]?))) (hn : n = min vs.length ws.length)
    (hG : ∀ H, Same F H → Gd H) (g1 : DqAll F vs xs) (g2 : DqAll F ws ys) : ItOk G F α J (pairs xs ys) (Same F) := by
  have l1 := DqAll.length g1
  have l2 := DqAll.length g2
  have l : (pairs xs ys).length = n := by rw [pairs_length, hn, l1, l2]
  refine ⟨fun i H hi s => w.goes i H (by omega) (hG H s), fun H s => by rw [l]; exact w.stops H (hG H s), fun i H x H' hi s y => ?_⟩
  obtain ⟨t, x1, y1, e1, e2, e3, h1, h2⟩ := w.yields i H x H' (by omega) (hG H s) y
  obtain ⟨d1, hd1, r1⟩ := DqAll.get' g1 h1
  obtain ⟨d2, hd2, r2⟩ := DqAll.get' g2 h2
  exact ⟨_, pairs_get hd1 hd2, .inr (.inl ⟨t, _, _, e2, e1, e3, rfl, .cons r1 (.cons r2 .nil)⟩)⟩
theorem walk_zipT {K : PySem.W.Frag} {a b : Addr} {xs ys : List V} : Walk (RZ.ItzT K a b) (min xs.length ys.length) (fun H => SqT K H a xs ∧ SqT K H b ys) (YPair (fun i => xs[i]?) (fun i => ys[i]?)) := by
  refine ⟨fun i _ hi q => ?_, fun _ q => ⟨xs, ys, q.1, q.2, by omega⟩, fun i H v H' _ q y => ?_⟩
  · have h1 : i < xs.length := by omega
    have h2 : i < ys.length := by omega
    exact ⟨xs, ys, xs[i], ys[i], q.1, q.2, by simp [h1], by simp [h2]⟩
  · obtain ⟨T, x, z, h1, h2, h3, h4, h5⟩ := y
    exact ⟨T, x, z, h1, h2, h3, h4 xs q.1, h5 ys q.2⟩
theorem nums_length : ∀ (i : Nat) (xs : List PyData), (nums i xs).length = xs.length
  | _, [] => rfl
  | i, x :: xs => by simp [nums, nums_length (i + 1) xs]
theorem nums_get : ∀ {xs : List PyData} {k i : Nat} {x : PyData}, xs[i]? = some x → (nums k xs)[i]? = some (.d (.tuple [.int ((k + i : Nat) : Int), x]))
  | [], _, _, _, h => by simp at h
  | a :: xs, k, 0, x, h => by simp at h; subst h; rfl
  | a :: xs, k, i + 1, x, h => by
    have := nums_get (xs := xs) (k := k + 1) (i := i) (by simpa using h)
    have e : k + 1 + i = k + (i + 1) := by omega
    rw [e] at this
    simpa [nums] using this
theorem it_enum {F : Hp} {α : List Addr} {a : Addr} {vs : List V} {xs : List PyData} (h : F a = some (.lst vs)) (g : DqAll F vs xs) : ItOk G F α (Ite G.K a) (nums 0 xs) (Same F) := by
  have w := walk_enum (K := G.K) (a := a) (xs := vs)
  have l := DqAll.length g
  have l' : (nums 0 xs).length = vs.length := by rw [nums_length, l]
  refine ⟨fun i H hi s => w.goes i H (by omega) (.inl (.inl (s _ _ h))), fun H s => by rw [l']; exact w.stops H (.inl (.inl (s _ _ h))), fun i H x H' hi s y => ?_⟩
  obtain ⟨t, x1, y1, e1, e2, e3, h1, h2⟩ := w.yields i H x H' (by omega) (.inl (.inl (s _ _ h))) y
  obtain ⟨d2, hd2, r2⟩ := DqAll.get' g h2
  have h1 : V.int ((i : Nat) : Int) = x1 := Option.some.inj h1
  subst h1
  refine ⟨_, nums_get hd2, .inr (.inl ⟨t, _, _, e2, e1, e3, rfl, .cons ?_ (.cons r2 .nil)⟩)⟩
  rw [Nat.zero_add]
  exact .int _
end
end Ob

set_option Elab.async false
set_option linter.all false
set_option maxRecDepth 100000
set_option maxHeartbeats 2000000
namespace Ob
open PySem PySem.Spec PyProof.Rows L2
theorem WpE.imp {G : Gx} {W : XK} {F H : Hp} {α : List Addr} {r : Rs D} {Q Q' : VK} (h : WpE G W false F α H r Q) (i : ∀ v H, Q v H → Q' v H) : WpE G W false F α H r Q' := by
  cases r with
  | none => exact h
  | some q =>
    cases q with
    | error x => exact h
    | ok q => exact fun F' v H' a b c d => i _ _ (h F' v H' a b c d)
section
variable {G : Gx} {T : Tab} {N : List Str} {call : Nat → List D → Ms → Rs D} {W : XK} {X : Cx} {s0 sc : Scope}
theorem tev_step {e : E} {k : D → Ms → Rs D} {m : Bool} {F : Hp} {α : List Addr} {ρ : Rho} {M : Ms} {σ : L2.St} {H : Hp} {Q Q' : VK} (h : WpE G W m F α H ((ev call e ρ M).bind k) Q) (R : Rp G F α M H) (S : Sl G F α ρ σ)
    (f : ∀ d M1 F1 v H1, Same F F1 → Stp F F1 α α H H1 → Rp G F1 α M1 H1 → Sl G F1 α ρ σ → RV G F1 α d v → WpE G W m F1 α H1 (k d M1) Q → Q' v H1) : tev G W call false e σ H Q' :=
  ⟨F, α, ρ, M, R, S, h.bind.imp fun v H1 ⟨d, M1, F1, e1, st, R1, rv, h1⟩ => f d M1 F1 v H1 e1 st R1 (S.mono e1) rv h1⟩
theorem tevA_step {es : Es} {k : List D → Ms → Rs D} {m : Bool} {F : Hp} {α : List Addr} {ρ : Rho} {M : Ms} {σ : L2.St} {H : Hp} {Q : VK} {Q' : List V → Hp → Prop} (h : WpE G W m F α H ((evs call es ρ M).bind k) Q) (R : Rp G F α M H) (S : Sl G F α ρ σ)
    (f : ∀ ds M1 F1 vs H1, Same F F1 → Stp F F1 α α H H1 → Rp G F1 α M1 H1 → Sl G F1 α ρ σ → RVs G F1 α ds vs → WpE G W m F1 α H1 (k ds M1) Q → Q' vs H1) : tevA G W call es σ H Q' := by
  refine ⟨F, α, ρ, M, R, S, ?_⟩
  have h := h.bindA
  cases e : evs call es ρ M with
  | none => rw [e] at h; exact h
  | some q =>
    rw [e] at h
    cases q with
    | error x => exact h
    | ok q =>
      obtain ⟨ds, M1⟩ := q
      intro F' vs H' a b c d
      obtain ⟨ds1, M1', F1, e1, st, R1, rv, h1⟩ := h F' vs H' a b c d
      exact f ds1 M1' F1 vs H' e1 st R1 (S.mono e1) rv h1
/-- a test's reading -/
def tevT (G : Gx) (W : XK) (call : Nat → List D → Ms → Rs D) (e : E) : TT := fun σ H Q => tev G W call false e σ H fun v H' => ∃ b, v = .bl b ∧ Q b H'
/-- a truth value that the evaluator has -/
theorem rv_bool {F : Hp} {α : List Addr} {b : Bool} {v : V} (r : RV G F α (.d (.bool b)) v) : v = .bl b := by cases r; rfl
theorem rv_int {F : Hp} {α : List Addr} {b : Int} {v : V} (r : RV G F α (.d (.int b)) v) : v = .int b := by cases r; rfl
theorem ok_of {α : Type} {a : α} {M : Ms} : (some (.ok (a, M)) : Rs α) = Rs.ok a M := rfl
/-- a test and what follows its two ways -/
theorem tevT_step {e : E} {k1 k0 : Ms → Rs D} {m : Bool} {F : Hp} {α : List Addr} {ρ : Rho} {M : Ms} {σ : L2.St} {H : Hp} {Q : VK} {Q' : Bool → Hp → Prop}
    (h : WpE G W m F α H ((ev call e ρ M).bind fun x M1 => match x with
      | .d (.bool true) => k1 M1
      | .d (.bool false) => k0 M1
      | _ => none) Q) (R : Rp G F α M H) (S : Sl G F α ρ σ)
    (f : ∀ b M1 F1 H1, Same F F1 → Stp F F1 α α H H1 → Rp G F1 α M1 H1 → Sl G F1 α ρ σ → WpE G W m F1 α H1 (if b = true then k1 M1 else k0 M1) Q → Q' b H1) : tevT G W call e σ H Q' := by
  refine tev_step h R S fun d M1 F1 v H1 e1 st R1 S1 rv h1 => ?_
  split at h1
  · exact ⟨true, rv_bool rv, f true M1 F1 H1 e1 st R1 S1 h1⟩
  · exact ⟨false, rv_bool rv, f false M1 F1 H1 e1 st R1 S1 h1⟩
  · exact h1.elim
theorem datas_dq {F : Hp} {α : List Addr} : ∀ {ds : List D} {vs : List V} {ys : List PyData}, RVs G F α ds vs → datas ds = some ys → DqAll F vs ys
  | [], _, _, .nil, e => by simp [datas] at e; subst e; exact .nil
  | .d x :: r, _, _, .cons h g, e => by
    simp only [datas, Option.map_eq_some_iff] at e
    obtain ⟨bs, e1, rfl⟩ := e
    exact .cons h (datas_dq g e1)
  | .own _ :: _, _, _, _, e => by simp [datas] at e
  | .fn _ :: _, _, _, _, e => by simp [datas] at e
  | .its _ :: _, _, _, _, e => by simp [datas] at e
  | .scr _ :: _, _, _, _, e => by simp [datas] at e
/-! ### a comprehension's block -/
theorem Cok.blk (C : Cok G T N call W X s0 sc) {scope : Scope} {own : List (Str × Nat)} (hb : blkC N sc scope own = true) (s : Shared) (H : Hp) (c : Addr) (cl : List (Str × Addr)) (fp : List Addr) :
    Cok G T N call E0 (X.blk s H scope (compEnvC scope cl c X.env) fp) scope (relS scope sc) := by
  have ok := blkOk_by hb
  obtain ⟨k, hf, hr, hx⟩ := C.fns
  refine ⟨C.calm, C.nd, C.hN, ?_, ?_, fun x hx => ?_, C.kk, C.gd, C.un, C.consts, C.blt, C.gcd, ⟨k, hf, hr, passL⟩⟩
  · show relS scope X.env.scope = relS scope sc
    rw [C.hsc]
  · exact ok.kind
  · have e : (compEnvC scope cl c X.env).scope = relS scope X.env.scope := rfl
    unfold locB at hx
    split at hx
    · rename_i hl
      have z : (relS scope X.env.scope).names.lookup x = some .local := lookup_relS_keep (by decide) hl
      exact ⟨.inl z, .inr z⟩
    · rename_i hl
      have z : (relS scope X.env.scope).names.lookup x = some .cell := lookup_relS_keep (by decide) hl
      refine ⟨.inr z, .inl ?_⟩
      show (scope.names.lookup x == some .cell) = true
      rw [hl]; rfl
    · cases hx
/-! ### targets -/
theorem wipe_set {σ : L2.St} {i : Nat} {x : Option V} : ∀ {vs : List Nat}, i ∈ vs → wipe (σ.set i x) vs = wipe σ vs
  | v :: vs, h => by
    have key : ∀ vs : List Nat, wipe (σ.set i x) vs = (wipe σ vs).set i (if i ∈ vs then none else x) := by
      intro vs
      induction vs with
      | nil => simp [wipe]
      | cons v vs ih =>
        unfold wipe
        rw [ih]
        by_cases e : v = i
        · subst e
          simp
        · rw [List.set_comm _ _ (fun q => e q.symm)]
          have : (i ∈ v :: vs) ↔ i ∈ vs := by
            simp only [List.mem_cons]
            exact ⟨fun q => q.elim (fun z => absurd z.symm e) id, .inr⟩
          simp only [this]
    rw [key, if_pos h]
    have z : (wipe σ (v :: vs))[i]? = some none ∨ (wipe σ (v :: vs))[i]? = none := by
      cases q : (wipe σ (v :: vs))[i]? with
      | none => exact .inr rfl
      | some o =>
        cases o with
        | none => exact .inl rfl
        | some y => exact absurd h (wipe_some q).2
    apply List.ext_getElem?
    intro j
    by_cases hj : i = j
    · subst hj
      rcases z with z | z
      · rw [z, List.getElem?_set]
        have : i < (wipe σ (v :: vs)).length := (List.getElem?_eq_some_iff.mp z).1
        simp [this]
      · rw [z, List.getElem?_set]
        have : (wipe σ (v :: vs)).length ≤ i := List.getElem?_eq_none_iff.mp z
        simp; omega
    · rw [List.getElem?_set_ne hj]
def gTg (G : Gx) (t : Tg) : TG := fun v σ H Q => ∃ F α d ρ ρ', Same F H ∧ RV G F α d v ∧ Sl G F α ρ σ ∧ bindTg t d ρ = some ρ' ∧ ∀ σ', Sl G F α ρ' σ' → (∀ vs, (∀ i ∈ tgIx t, i ∈ vs) → wipe σ' vs = wipe σ vs) → Q σ' H
def gTgs (G : Gx) (t : Tgs) : TGs := fun vs σ H Q => ∃ F α ds ρ ρ', Same F H ∧ DqAll F vs ds ∧ Sl G F α ρ σ ∧ bindTgs t ds ρ = some ρ' ∧ ∀ σ', Sl G F α ρ' σ' → (∀ vs, (∀ i ∈ tgsIx t, i ∈ vs) → wipe σ' vs = wipe σ vs) → Q σ' H
theorem PG.imp {e : Expr} {t t' : TG} (h : PG X e t) (i : ∀ v σ H Q, t' v σ H Q → t v σ H Q) : PG X e t' := ⟨fun pins s σ H v u Q I r q => h.run pins s σ H v u Q I r (i v σ H Q q)⟩
theorem PGs.imp {e : List Expr} {t t' : TGs} (h : PGs X e t) (i : ∀ v σ H Q, t' v σ H Q → t v σ H Q) : PGs X e t' := ⟨fun pins s σ H v u Q I r q => h.run pins s σ H v u Q I r (i v σ H Q q)⟩
/-- no star among the targets -/
theorem tg_plain {s0 : Scope} : ∀ {t : Tg} {e : Expr}, mtTg N s0 t e = true → ∀ (es : List Expr) (env : Env), assignEach (e :: es) env = (false, assign e env) :: assignEach es env
  | .nm i, e, h, es, env => by
    unfold mtTg at h
    split at h
    · rename_i n p hv
      rw [vName_eq hv]; rfl
    · cases h
  | .tp ts, e, h, es, env => by
    unfold mtTg at h
    split at h
    · rfl
    · cases h
theorem tgs_plain {s0 : Scope} {env : Env} : ∀ {ts : Tgs} {es : List Expr}, mtTgs N s0 ts es = true → (assignEach es env).length = es.length ∧ (assignEach es env).findIdx? (·.1) = none ∧ ∀ {ds : List PyData} {ρ ρ' : Rho}, bindTgs ts ds ρ = some ρ' → ds.length = es.length
  | .nil, es, h => by
    unfold mtTgs at h
    cases es with
    | nil =>
      refine ⟨rfl, rfl, fun {ds ρ ρ'} h => ?_⟩
      unfold bindTgs at h
      split at h
      · rfl
      · cases h
    | cons a b => cases h
  | .cons t ts, es, h => by
    cases es with
    | nil => cases h
    | cons e es =>
      have h : (mtTg N s0 t e && mtTgs N s0 ts es) = true := h
      simp only [Bool.and_eq_true] at h
      obtain ⟨i1, i2, i3⟩ := tgs_plain (env := env) (ts := ts) h.2
      rw [tg_plain h.1 es env]
      refine ⟨by simp [i1], by rw [List.findIdx?_cons]; simp [i2], fun {ds ρ ρ'} hb => ?_⟩
      unfold bindTgs at hb
      split at hb
      · split at hb
        · simp [i3 hb]
        · cases hb
      · cases hb
mutual
theorem snd_tg (C : Cok G T N call W X s0 sc) : ∀ (t : Tg) (e : Expr), mtTg N s0 t e = true → PG X e (gTg G t)
  | .nm i, e, h => by
    unfold mtTg at h
    split at h
    · rename_i n p hv
      rw [vName_eq hv]
      simp only [Bool.and_eq_true, decide_eq_true_eq] at h
      obtain ⟨hl, hf⟩ := C.st n h.2
      refine PG.imp (pg_name (i := i) C.nd (by rw [C.hN]; exact h.1) hl hf) ?_
      rintro v σ H Q ⟨F, α, d, ρ, ρ', sub, r, S, hb, k⟩
      cases hb
      exact k _ (S.set r) fun vs hv => wipe_set (hv i (by simp [tgIx]))
    · cases h
  | .tp ts, e, h => by
    unfold mtTg at h
    split at h
    · rename_i es k pos
      obtain ⟨h1, h2, h3⟩ := tgs_plain (env := X.env) h
      refine PG.imp (pg_tup C.calm (snd_tgs C ts es h) h1 h2) ?_
      rintro v σ H Q ⟨F, α, d, ρ, ρ', sub, r, S, hb, k⟩
      unfold bindTg at hb
      split at hb
      · rename_i xs
        cases r with
        | tup hf g =>
          exact ⟨_, _, rfl, .inl (.inl (sub _ _ hf)), by rw [DqAll.length g]; exact h3 hb, F, α, xs, ρ, ρ', sub, g, S, hb, k⟩
      · cases hb
    · cases h
theorem snd_tgs (C : Cok G T N call W X s0 sc) : ∀ (t : Tgs) (es : List Expr), mtTgs N s0 t es = true → PGs X es (gTgs G t)
  | .nil, es, h => by
    cases es with
    | cons a b => cases h
    | nil =>
      refine PGs.imp pgs_nil ?_
      rintro v σ H Q ⟨F, α, d, ρ, ρ', sub, r, S, hb, k⟩
      unfold bindTgs at hb
      split at hb
      · cases hb
        cases r
        exact ⟨rfl, k σ S fun _ _ => rfl⟩
      · cases hb
  | .cons t ts, es, h => by
    cases es with
    | nil => cases h
    | cons e es =>
      have h : (mtTg N s0 t e && mtTgs N s0 ts es) = true := h
      simp only [Bool.and_eq_true] at h
      refine PGs.imp (pgs_cons (snd_tg C t e h.1) (snd_tgs C ts es h.2) (by rw [tg_plain h.1 es X.env]; rfl)) ?_
      rintro v σ H Q ⟨F, α, d, ρ, ρ', sub, r, S, hb, k⟩
      unfold bindTgs at hb
      split at hb
      · rename_i x xr
        split at hb
        · rename_i ρ1 h1
          cases r with
          | cons r1 r2 =>
            exact ⟨_, _, rfl, F, α, .d x, ρ, ρ1, sub, r1, S, h1, fun σ1 S1 w1 => ⟨F, α, xr, ρ1, ρ', sub, r2, S1, hb, fun σ2 S2 w2 => k σ2 S2 fun vs hv => by
              rw [w2 vs fun i hi => hv i (by simp [tgsIx, hi]), w1 vs fun i hi => hv i (by simp [tgsIx, hi])]⟩⟩
        · cases hb
      · cases hb
end
end
end Ob

set_option Elab.async false
set_option linter.all false
set_option maxRecDepth 100000
set_option maxHeartbeats 2000000
namespace Ob
open PySem PySem.Spec PyProof.Rows L2
section
variable {G : Gx} {T : Tab} {N : List Str} {call : Nat → List D → Ms → Rs D} {W : XK} {X : Cx} {s0 sc : Scope}
/-- a tracked thing that is not to be written is taken for what never changes -/
theorem Rp.freeze {F H : Hp} {α : List Addr} {M : Ms} (R : Rp G F α M H) {p : Addr} {o : HO} (h : H p = some o) (hf : F p = none) (ha : p ∉ α) : Rp G (upd F p o) α M H := by
  refine ⟨fun b u e => ?_, R.len, R.nd, fun a hq => ?_, fun n a m h1 h2 => (R.ok n a m h1 h2).mono (same_upd hf) fun u e => e⟩
  · by_cases hb : b = p
    · subst hb; rw [upd_same] at e; rw [h]; exact e
    · rw [upd_ne hb] at e; exact R.sub b u e
  · have : a ≠ p := fun q => ha (q ▸ hq)
    rw [upd_ne this]; exact R.off a hq
/-- something else is written beside -/
theorem Rp.beside {F H : Hp} {α : List Addr} {M : Ms} (R : Rp G F α M H) {p : Addr} {o : HO} (hf : F p = none) (ha : p ∉ α) : Rp G F α M (upd H p o) := by
  refine ⟨fun b u e => ?_, R.len, R.nd, R.off, fun n a m h1 h2 => (R.ok n a m h1 h2).mono (Same.refl _) fun u e => ?_⟩
  · have : b ≠ p := fun q => by rw [q, hf] at e; cases e
    rw [upd_ne this]; exact R.sub b u e
  · have : a ≠ p := fun q => ha (q ▸ List.mem_of_getElem? h1)
    rw [upd_ne this]; exact e
theorem keys_dq (F : Hp) : ∀ ks : List Key, DqAll F (ks.map kV) (ks.map keyD)
  | [] => .nil
  | .inl i :: r => .cons (.int i) (keys_dq F r)
  | .inr x :: r => .cons (.str x) (keys_dq F r)
theorem HO.notT {G : Gx} {F H : Hp} {a : Addr} {m : MO} (h : MoOk G F H a m) {xs : List V} : H a ≠ some (.tup xs) := fun q => by
  cases m with
  | lst => obtain ⟨_, e, _⟩ := h; rw [q] at e; cases e
  | dK => obtain ⟨_, e, _⟩ := h; rw [q] at e; cases e
  | dT => obtain ⟨_, e, _⟩ := h; rw [q] at e; cases e
  | zL => obtain ⟨_, _, e, _⟩ := h; rw [q] at e; cases e
  | zK => obtain ⟨_, _, e, _⟩ := h; rw [q] at e; cases e
  | zT => obtain ⟨_, _, e, _⟩ := h; rw [q] at e; cases e
/-- a tracked tuple is taken for what never changes -/
theorem Rp.takeT {F H : Hp} {α : List Addr} {M : Ms} (R : Rp G F α M H) {p : Addr} {xs : List V} (h : H p = some (.tup xs)) : ∃ F', Same F F' ∧ Stp F F' α α H H ∧ Rp G F' α M H ∧ F' p = some (.tup xs) ∧ True := by
  cases q : F p with
  | some o =>
    have := R.sub p o q
    rw [h] at this
    cases this
    exact ⟨F, Same.refl _, Stp.refl _ _ _, R, q, trivial⟩
  | none =>
    have ha : p ∉ α := fun z => by
      obtain ⟨n, hn, e⟩ := List.mem_iff_getElem.mp z
      have h1 : α[n]? = some p := by rw [List.getElem?_eq_getElem hn, e]
      have h2 : n < M.length := by rw [← R.len]; exact hn
      exact HO.notT (R.ok n p _ h1 (List.getElem?_eq_getElem h2)) h
    refine ⟨upd F p (.tup xs), same_upd q, ⟨fun b o e n => ⟨e, n⟩, fun b ys e t n => ?_, fun b o u e => e⟩, R.freeze h q ha, upd_same, trivial⟩
    have : b ≠ p := fun z => by rw [z, h] at e; cases e; cases t
    rw [upd_ne this]
theorem wipe_wipe (σ : L2.St) : ∀ vs : List Nat, wipe (wipe σ vs) vs = wipe σ vs := by
  intro vs
  have key : ∀ (us : List Nat) (τ : L2.St), (∀ i ∈ us, i ∈ vs) → wipe (wipe τ us) vs = wipe τ vs := by
    intro us
    induction us with
    | nil => intro τ _; rfl
    | cons u us ih =>
      intro τ h
      show wipe ((wipe τ us).set u none) vs = _
      rw [wipe_set (h u (by simp))]
      exact ih τ fun i hi => h i (by simp [hi])
  exact key vs σ fun _ h => h
/-- the block's body, as the evaluator does it -/
def lcBody (call : Nat → List D → Ms → Rs D) (elt : E) (tg : Tg) (cond : E) (vs : List Nat) (ρ : Rho) (x : D) (M2 : Ms) : Rs (Option PyData) := match bindTg tg x (wipeR ρ vs) with
  | none => none
  | some ρ' => ((ev call cond ρ' M2).bind fun c M3 => match c with
    | .d (.bool true) => (ev call elt ρ' M3).bind fun y M4 => match y with
      | .d v => Rs.ok (some v) M4
      | _ => none
    | .d (.bool false) => Rs.ok none M3
    | _ => none).quiet
theorem ev_lc (elt : E) (tg : Tg) (it cond : E) (vs : List Nat) (ρ : Rho) (M : Ms) : ev call (.lc elt tg it cond vs) ρ M = (ev call it ρ M).bind fun w M1 => match itemsOf w with
    | some xs => (lcLoop (lcBody call elt tg cond vs ρ) xs M1).bind fun ys M6 => Rs.ok (.d (.list ys)) M6
    | none => none := by
  rw [ev]
  rfl
/-- what a body that ends has done -/
theorem lcBody_ok {elt : E} {tg : Tg} {cond : E} {vs : List Nat} {ρ : Rho} {x : D} {M2 : Ms} {r : Except Xc (Option PyData × Ms)} (h : lcBody call elt tg cond vs ρ x M2 = some r) :
    ∃ o M' ρ' b M3, r = .ok (o, M') ∧ bindTg tg x (wipeR ρ vs) = some ρ' ∧ ev call cond ρ' M2 = Rs.ok (.d (.bool b)) M3 ∧
      (if b = true then ∃ y, ev call elt ρ' M3 = Rs.ok (.d y) M' ∧ o = some y else o = none ∧ M' = M3) := by
  unfold lcBody at h
  split at h
  · cases h
  · rename_i ρ' hb
    cases e1 : ev call cond ρ' M2 with
    | none => rw [e1] at h; cases h
    | some q =>
      cases q with
      | error x => rw [e1] at h; cases h
      | ok q =>
        obtain ⟨c, M3⟩ := q
        rw [e1] at h
        have h : Rs.quiet (match c with
          | .d (.bool true) => (ev call elt ρ' M3).bind fun y M4 => match y with
            | .d v => Rs.ok (some v) M4
            | _ => none
          | .d (.bool false) => Rs.ok none M3
          | _ => none) = some r := h
        split at h
        · cases e2 : ev call elt ρ' M3 with
          | none => rw [e2] at h; cases h
          | some q =>
            cases q with
            | error x => rw [e2] at h; cases h
            | ok q =>
              obtain ⟨y, M4⟩ := q
              rw [e2] at h
              have h : Rs.quiet (match y with
                | .d v => Rs.ok (some v) M4
                | _ => none) = some r := h
              split at h
              · rename_i v _
                cases h
                exact ⟨_, _, ρ', true, M3, rfl, hb, e1, by rw [if_pos rfl]; exact ⟨v, e2, rfl⟩⟩
              · cases h
        · cases h
          exact ⟨_, _, ρ', false, M3, rfl, hb, e1, by rw [if_neg (by decide)]; exact ⟨rfl, rfl⟩⟩
        · cases h
/-- the tests of a comprehension -/
def ttOf (G : Gx) (call : Nat → List D → Ms → Rs D) (cond : E) : TT := if isNop cond = true then tYes else tevT G E0 call cond
theorem bind_id {α : Type} (r : Rs α) : (r.bind fun a M => Rs.ok a M) = r := by
  cases r with
  | none => rfl
  | some q => cases q <;> rfl
/-- the loop's own reading, over any walk J of the items xs -/
theorem lc_loop {Zz : Rs (List PyData) → Prop} (hz : ¬ Zz none) {elt : E} {tg : Tg} {cond : E} {vs : List Nat} (htg : ∀ i ∈ tgIx tg, i ∈ vs) {F H : Hp} {α : List Addr} {ρ : Rho} {M : Ms} {σ : L2.St} {xs : List D} {J : It} {Q : VK} (R : Rp G F α M H) (S : Sl G F α ρ σ)
    {Gd : Hp → Prop} (hG : ∀ F2 M2 H2, Same F F2 → Stp F F2 α α H H2 → Rp G F2 α M2 H2 → Gd H2) (ok : ItOk G F α J xs Gd) (hl : xs.length ≤ sizeLine) {D' : Addr} (hD : H D' = none)
    (fin : ∀ F2 M2 H2 acc accD, Same F F2 → Stp F F2 α α H H2 → Rp G F2 α M2 H2 → H2 D' = some (.lst acc) → F2 D' = none → DqAll F2 acc accD → Zz (Rs.ok accD M2) → Q (.ref D') H2)
    (h : Zz (lcLoop (lcBody call elt tg cond vs ρ) xs M)) :
    ∃ W' : Nat → Nat → Hp → Prop, (∃ m, W' 0 m (upd H D' (.lst []))) ∧ ∀ i m H2, W' i m H2 → (J.stop i H2 ∧ Q (.ref D') H2) ∨ (J.go i H2 ∧ ∃ Nx : Hp → Prop, (∀ H', Nx H' → ∃ m', m' < m ∧ W' (i + 1) m' H') ∧ ∀ x H', J.yld i H2 x H' →
      gTg G tg x (wipe σ vs) H' fun σ2 H3 => wipe σ2 vs = wipe σ vs ∧ ttOf G call cond σ2 H3 fun b H4 => if b = true then tev G E0 call false elt σ2 H4 fun y H5 => ∃ acc, H5 D' = some (.lst acc) ∧ acc.length < sizeLine ∧ Nx (upd H5 D' (.lst (acc ++ [y]))) else Nx H4) := by
  have hDα : D' ∉ α := R.notin hD
  have hDF : F D' = none := R.free hD
  let P : Nat → Hp → Prop := fun i H2 => ∃ F2 M2 acc accD, Same F F2 ∧ Stp F F2 α α H H2 ∧ Rp G F2 α M2 H2 ∧ H2 D' = some (.lst acc) ∧ F2 D' = none ∧ DqAll F2 acc accD ∧ acc.length ≤ i ∧
    Zz ((lcLoop (lcBody call elt tg cond vs ρ) (xs.drop i) M2).bind fun ys M6 => Rs.ok (accD ++ ys) M6)
  refine ⟨fun i mm H2 => mm = xs.length - i ∧ i ≤ xs.length ∧ P i H2, ⟨xs.length, by simp, Nat.zero_le _, F, M, [], [], Same.refl _, Stp.updH hD, R.newH hD, upd_same, hDF, .nil, Nat.le_refl _, by simpa [bind_id] using h⟩, ?_⟩
  rintro i mm H2 ⟨rfl, hi, F2, M2, acc, accD, e2, st2, R2, hD2, hF2, g2, hla, h2⟩
  have sm : Gd H2 := hG F2 M2 H2 e2 st2 R2
  by_cases hlt : i < xs.length
  · refine .inr ⟨ok.go i H2 hlt sm, P (i + 1), fun H' p => ⟨xs.length - (i + 1), by omega, rfl, hlt, p⟩, fun x H3 y => ?_⟩
    obtain ⟨d, hd, hx⟩ := ok.yld i H2 x H3 hlt sm y
    -- the item has come
    obtain ⟨F3, e3, st3, R3, rx, hD3, hF3⟩ : ∃ F3, Same F2 F3 ∧ Stp F2 F3 α α H2 H3 ∧ Rp G F3 α M2 H3 ∧ RV G F3 α d x ∧ H3 D' = some (.lst acc) ∧ F3 D' = none := by
      rcases hx with ⟨rfl, r⟩ | ⟨t, ws, ds, ht, rfl, rfl, rfl, g⟩ | ⟨t, ks, rfl, rfl, ht, rfl⟩
      · exact ⟨F2, Same.refl _, Stp.refl _ _ _, R2, r.mono e2, hD2, hF2⟩
      · have hne : D' ≠ t := ne_of_none hD2 ht
        refine ⟨upd F2 t (.tup ws), same_upd (R2.free ht), Stp.upd ht, R2.new ht, ?_, by rw [upd_ne hne]; exact hD2, by rw [upd_ne hne]; exact hF2⟩
        exact .tup upd_same (dqAll_mono (e2.trans (same_upd (R2.free ht))) g)
      · obtain ⟨F3, e3, st3, R3, h3, hk⟩ := R2.takeT ht
        refine ⟨F3, e3, st3, R3, .tup h3 (keys_dq F3 ks), hD2, ?_⟩
        rw [st3.ff D' _ hD2 rfl hDα]; exact hF2
    have hdrop : xs.drop i = d :: xs.drop (i + 1) := by
      rw [List.drop_eq_getElem_cons hlt]
      congr 1
      have := (List.getElem?_eq_some_iff.mp hd).2
      exact this
    rw [hdrop] at h2
    cases hb : lcBody call elt tg cond vs ρ d M2 with
    | none =>
      unfold lcLoop at h2
      rw [hb] at h2
      exact (hz h2).elim
    | some r =>
      obtain ⟨o, M', ρ', b, M3, rfl, hbind, hc, hres⟩ := lcBody_ok hb
      have h2 : Zz ((lcLoop (lcBody call elt tg cond vs ρ) (xs.drop (i + 1)) M').bind fun r M4 => Rs.ok (accD ++ consO o r) M4) := by
        have z : (lcLoop (lcBody call elt tg cond vs ρ) (d :: xs.drop (i + 1)) M2).bind (fun ys M6 => Rs.ok (accD ++ ys) M6) = (lcLoop (lcBody call elt tg cond vs ρ) (xs.drop (i + 1)) M').bind fun r M4 => Rs.ok (accD ++ consO o r) M4 := by
          rw [lcLoop, hb]
          show ((lcLoop (lcBody call elt tg cond vs ρ) (xs.drop (i + 1)) M').bind _).bind _ = _
          cases lcLoop (lcBody call elt tg cond vs ρ) (xs.drop (i + 1)) M' with
          | none => rfl
          | some q => cases q <;> rfl
        rw [z] at h2
        exact h2
      have S3 : Sl G F3 α (wipeR ρ vs) (wipe σ vs) := (S.mono (e2.trans e3)).wipe vs
      refine ⟨F3, α, d, wipeR ρ vs, ρ', R3.sub, rx, S3, hbind, fun σ2 S2 w2 => ⟨by rw [w2 vs htg, wipe_wipe], ?_⟩⟩
      -- behind the tests
      have tail : ∀ F4 H4, Same F3 F4 → Stp F3 F4 α α H3 H4 → Rp G F4 α M3 H4 → Sl G F4 α ρ' σ2 → (if b = true then tev G E0 call false elt σ2 H4 fun y H5 => ∃ acc, H5 D' = some (.lst acc) ∧ acc.length < sizeLine ∧ P (i + 1) (upd H5 D' (.lst (acc ++ [y]))) else P (i + 1) H4) := by
        intro F4 H4 e4 st4 R4 S4
        obtain ⟨hD4, _⟩ := st4.un D' _ hD3 hDα
        have hF4 := st4.ff D' _ hD3 rfl hDα
        rw [hF3] at hF4
        cases b with
        | false =>
          rw [if_neg (by decide)] at hres ⊢
          obtain ⟨rfl, rfl⟩ := hres
          exact ⟨F4, M', acc, accD, (e2.trans e3).trans e4, (st2.trans st3).trans st4, R4, hD4, hF4, dqAll_mono (e3.trans e4) g2, Nat.le_succ_of_le hla, h2⟩
        | true =>
          rw [if_pos rfl] at hres ⊢
          obtain ⟨y, hy, rfl⟩ := hres
          refine ⟨F4, α, ρ', M3, R4, S4, ?_⟩
          rw [hy]
          intro F5 v H5 e5 R5 st5 r5
          obtain ⟨hD5, _⟩ := st5.un D' _ hD4 hDα
          have hF5 := st5.ff D' _ hD4 rfl hDα
          rw [hF4] at hF5
          refine ⟨acc, hD5, Nat.lt_of_le_of_lt hla (Nat.lt_of_lt_of_le hlt hl), F5, M', acc ++ [v], accD ++ [y], ((e2.trans e3).trans e4).trans e5, ?_, R5.beside hF5 hDα, upd_same, hF5, DqAll.append (dqAll_mono ((e3.trans e4).trans e5) g2) (.cons r5 .nil), by simp; omega, ?_⟩
          · have z := ((st2.trans st3).trans st4).trans st5
            exact ⟨fun c o hc hn => ⟨by rw [upd_ne (ne_of_none hc hD)]; exact (z.un c o hc hn).1, (z.un c o hc hn).2⟩, z.ff, fun c o u hc => by rw [upd_ne (ne_of_none hc hD)]; exact z.fz c o u hc⟩
          · simpa [List.append_assoc, consO] using h2
      unfold ttOf
      by_cases hn : isNop cond = true
      · rw [if_pos hn]
        cases cond <;> first | (cases hn; done) | skip
        have hc : (Rs.ok (D.d (.bool true)) M2 : Rs D) = Rs.ok (D.d (.bool b)) M3 := hc
        cases hc
        exact tail F3 H3 (Same.refl _) (Stp.refl _ _ _) R3 S2
      · rw [if_neg hn]
        refine ⟨F3, α, ρ', M2, R3, S2, ?_⟩
        rw [hc]
        intro F4 v H4 e4 R4 st4 r4
        exact ⟨b, rv_bool r4, tail F4 H4 e4 st4 R4 (S2.mono e4)⟩
  · have ei : i = xs.length := by omega
    subst ei
    rw [List.drop_length] at h2
    refine .inl ⟨ok.stop H2 sm, fin F2 M2 H2 acc accD e2 st2 R2 hD2 hF2 g2 ?_⟩
    have z : (lcLoop (lcBody call elt tg cond vs ρ) [] M2).bind (fun ys M6 => Rs.ok (accD ++ ys) M6) = Rs.ok accD M2 := by
      rw [lcLoop]
      simp
    rw [z] at h2
    exact h2
/-- .. of the whole -/
theorem lc_read {m : Bool} {elt : E} {tg : Tg} {it cond : E} {vs : List Nat} (htg : ∀ i ∈ tgIx tg, i ∈ vs) {σ : L2.St} {H : Hp} {Q : VK} (h : tev G W call m (.lc elt tg it cond vs) σ H Q) :
    tLc (tevI G W call it) (gTg G tg) (ttOf G call cond) (tev G E0 call false elt) vs σ H Q := by
  obtain ⟨F, α, ρ, M, R, S, h⟩ := h
  rw [ev_lc] at h
  refine ⟨F, α, ρ, M, R, S, ?_⟩
  cases e : ev call it ρ M with
  | none => rw [e] at h; exact h
  | some q =>
    rw [e] at h
    cases q with
    | error x => exact h
    | ok q =>
      obtain ⟨w, M1⟩ := q
      have h : WpE G W m F α H (match itemsOf w with
        | some xs => (lcLoop (lcBody call elt tg cond vs ρ) xs M1).bind fun ys M6 => Rs.ok (.d (.list ys)) M6
        | none => none) Q := h
      cases ei : itemsOf w with
      | none => rw [ei] at h; exact h.elim
      | some xs =>
        rw [ei] at h
        refine ⟨xs, ei, fun F' J H' e1 R1 st1 ok hl D' hD => ?_⟩
        refine lc_loop (Zz := fun r => WpE G W m F' α H' (r.bind fun ys M6 => Rs.ok (.d (.list ys)) M6) Q) (fun z => z) htg R1 (S.mono e1) (fun F2 M2 H2 e2 _ R2 b o q => R2.sub b o (e2 b o q)) ok hl hD (fun F2 M2 H2 acc accD e2 st2 R2 hD2 hF2 g2 h2 => ?_) (WpE.adv e1 st1 R1 h)
        cases m with
        | false =>
          refine h2 (upd F2 D' (.lst acc)) (.ref D') H2 (e2.trans (same_upd hF2)) (R2.freeze hD2 hF2 (R1.notin hD)) ?_ (.lst upd_same (dqAll_mono (same_upd hF2) g2))
          exact ⟨st2.un, fun b xs hb ht hn => by rw [upd_ne (ne_of_none hb hD)]; exact st2.ff b _ hb ht hn, st2.fz⟩
        | true =>
          obtain ⟨ys, hd, h2⟩ := h2
          cases hd
          exact h2 F2 D' acc H2 e2 R2 st2 hD hD2 hF2 g2
end
end Ob

set_option Elab.async false
set_option linter.all false
set_option maxRecDepth 100000
set_option maxHeartbeats 1000000
/-! a comprehension of two clauses -/
namespace Ob
open PySem PySem.Spec PyProof.Rows L2
section
variable {G : Gx} {T : Tab} {N : List Str} {call : Nat → List D → Ms → Rs D} {W : XK}
def lc2Body (call : Nat → List D → Ms → Rs D) (elt : E) (tg : Tg) (cond : E) (vs : List Nat) (tg1 : Tg) (it1 cond1 : E) (vs1 : List Nat) (ρ : Rho) (x : D) (M2 : Ms) : Rs (List PyData) := match bindTg tg x (wipeR ρ vs) with
  | none => none
  | some ρ' => ((ev call cond ρ' M2).bind fun c M3 => match c with
    | .d (.bool true) => (ev call it1 ρ' M3).bind fun w1 M4 => match itemsOf w1 with
      | some xs1 => lcLoop (lcBody call elt tg1 cond1 vs1 ρ') xs1 M4
      | none => none
    | .d (.bool false) => Rs.ok [] M3
    | _ => none).quiet
theorem ev_lc2 (elt : E) (tg : Tg) (it cond : E) (vs : List Nat) (tg1 : Tg) (it1 cond1 : E) (vs1 : List Nat) (ρ : Rho) (M : Ms) : ev call (.lc2 elt tg it cond vs tg1 it1 cond1 vs1) ρ M = (ev call it ρ M).bind fun w M1 => match itemsOf w with
    | some xs => (lcLoopL (lc2Body call elt tg cond vs tg1 it1 cond1 vs1 ρ) xs M1).bind fun ys M6 => if line ys.length = true then Rs.ok (.d (.list ys)) M6 else none
    | none => none := by
  rw [ev]
  rfl
theorem lcLoop_noerr {elt : E} {tg : Tg} {cond : E} {vs : List Nat} {ρ : Rho} : ∀ {xs : List D} {M : Ms} {x : Xc}, lcLoop (lcBody call elt tg cond vs ρ) xs M ≠ some (.error x)
  | [], M, x, h => by rw [lcLoop] at h; cases h
  | d :: xs, M, x, h => by
    rw [lcLoop] at h
    cases hb : lcBody call elt tg cond vs ρ d M with
    | none => rw [hb] at h; cases h
    | some r =>
      obtain ⟨o, M', ρ', b, M3, rfl, hbind, hc, hres⟩ := lcBody_ok hb
      rw [hb] at h
      have h : ((lcLoop (lcBody call elt tg cond vs ρ) xs M').bind fun r M2 => Rs.ok (consO o r) M2) = some (.error x) := h
      cases hl : lcLoop (lcBody call elt tg cond vs ρ) xs M' with
      | none => rw [hl] at h; cases h
      | some q =>
        cases q with
        | error y => exact lcLoop_noerr hl
        | ok q => rw [hl] at h; cases h
/-- the inner loop: what is gathered stands at D', which was not there at the base -/
theorem in_loop {Zz : Rs (List PyData) → Prop} (hz : ¬ Zz none) (hlen : ∀ l M, Zz (Rs.ok l M) → l.length ≤ sizeLine) {elt : E} {tg : Tg} {cond : E} {vs : List Nat} (htg : ∀ i ∈ tgIx tg, i ∈ vs) {F H F1 H1 : Hp} {α : List Addr} {ρ : Rho} {M : Ms} {σ : L2.St} {xs : List D} {J : It}
    {D' : Addr} (hD : H D' = none) (hDα : D' ∉ α) {acc0 : List V} {accD0 : List PyData} (e1 : Same F F1) (st1 : Stp F F1 α α H H1) (R : Rp G F1 α M H1) (S : Sl G F1 α ρ σ) (ok : ItOk G F1 α J xs (Same F1)) (hD1 : H1 D' = some (.lst acc0)) (hF1 : F1 D' = none) (g1 : DqAll F1 acc0 accD0)
    {Fin : Hp → Prop} (fin : ∀ F2 M2 H2 acc accD, Same F F2 → Stp F F2 α α H H2 → Rp G F2 α M2 H2 → H2 D' = some (.lst acc) → F2 D' = none → DqAll F2 acc accD → Zz (Rs.ok accD M2) → Fin H2)
    (h : Zz ((lcLoop (lcBody call elt tg cond vs ρ) xs M).bind fun ys M6 => Rs.ok (accD0 ++ ys) M6)) :
    ∃ W' : Nat → Nat → Hp → Prop, (∃ m, W' 0 m H1) ∧ ∀ i m H2, W' i m H2 → (J.stop i H2 ∧ Fin H2) ∨ (J.go i H2 ∧ ∃ Nx : Hp → Prop, (∀ H', Nx H' → ∃ m', m' < m ∧ W' (i + 1) m' H') ∧ ∀ x H', J.yld i H2 x H' →
      gTg G tg x (wipe σ vs) H' fun σ2 H3 => wipe σ2 vs = wipe σ vs ∧ ttOf G call cond σ2 H3 fun b H4 => if b = true then tev G E0 call false elt σ2 H4 fun y H5 => ∃ acc, H5 D' = some (.lst acc) ∧ acc.length < sizeLine ∧ Nx (upd H5 D' (.lst (acc ++ [y]))) else Nx H4) := by
  let P : Nat → Hp → Prop := fun i H2 => ∃ F2 M2 acc accD, Same F1 F2 ∧ Same F F2 ∧ Stp F F2 α α H H2 ∧ Rp G F2 α M2 H2 ∧ H2 D' = some (.lst acc) ∧ F2 D' = none ∧ DqAll F2 acc accD ∧
    Zz ((lcLoop (lcBody call elt tg cond vs ρ) (xs.drop i) M2).bind fun ys M6 => Rs.ok (accD ++ ys) M6)
  refine ⟨fun i mm H2 => mm = xs.length - i ∧ i ≤ xs.length ∧ P i H2, ⟨xs.length, by simp, Nat.zero_le _, F1, M, acc0, accD0, Same.refl _, e1, st1, R, hD1, hF1, g1, by simpa using h⟩, ?_⟩
  rintro i mm H2 ⟨rfl, hi, F2, M2, acc, accD, e12, e2, st2, R2, hD2, hF2, g2, h2⟩
  have sm : Same F1 H2 := fun b o q => R2.sub b o (e12 b o q)
  by_cases hlt : i < xs.length
  · refine .inr ⟨ok.go i H2 hlt sm, P (i + 1), fun H' p => ⟨xs.length - (i + 1), by omega, rfl, hlt, p⟩, fun x H3 y => ?_⟩
    obtain ⟨d, hd, hx⟩ := ok.yld i H2 x H3 hlt sm y
    obtain ⟨F3, e3, st3, R3, rx, hD3, hF3⟩ : ∃ F3, Same F2 F3 ∧ Stp F2 F3 α α H2 H3 ∧ Rp G F3 α M2 H3 ∧ RV G F3 α d x ∧ H3 D' = some (.lst acc) ∧ F3 D' = none := by
      rcases hx with ⟨rfl, r⟩ | ⟨t, ws, ds, ht, rfl, rfl, rfl, g⟩ | ⟨t, ks, rfl, rfl, ht, rfl⟩
      · exact ⟨F2, Same.refl _, Stp.refl _ _ _, R2, r.mono e12, hD2, hF2⟩
      · have hne : D' ≠ t := ne_of_none hD2 ht
        refine ⟨upd F2 t (.tup ws), same_upd (R2.free ht), Stp.upd ht, R2.new ht, ?_, by rw [upd_ne hne]; exact hD2, by rw [upd_ne hne]; exact hF2⟩
        exact .tup upd_same (dqAll_mono (e12.trans (same_upd (R2.free ht))) g)
      · obtain ⟨F3, e3, st3, R3, h3, hk⟩ := R2.takeT ht
        refine ⟨F3, e3, st3, R3, .tup h3 (keys_dq F3 ks), hD2, ?_⟩
        rw [st3.ff D' _ hD2 rfl hDα]; exact hF2
    have hdrop : xs.drop i = d :: xs.drop (i + 1) := by
      rw [List.drop_eq_getElem_cons hlt]
      congr 1
      exact (List.getElem?_eq_some_iff.mp hd).2
    rw [hdrop] at h2
    cases hb : lcBody call elt tg cond vs ρ d M2 with
    | none =>
      unfold lcLoop at h2
      rw [hb] at h2
      exact (hz h2).elim
    | some r =>
      obtain ⟨o, M', ρ', b, M3, rfl, hbind, hc, hres⟩ := lcBody_ok hb
      have h2 : Zz ((lcLoop (lcBody call elt tg cond vs ρ) (xs.drop (i + 1)) M').bind fun r M4 => Rs.ok (accD ++ consO o r) M4) := by
        have z : (lcLoop (lcBody call elt tg cond vs ρ) (d :: xs.drop (i + 1)) M2).bind (fun ys M6 => Rs.ok (accD ++ ys) M6) = (lcLoop (lcBody call elt tg cond vs ρ) (xs.drop (i + 1)) M').bind fun r M4 => Rs.ok (accD ++ consO o r) M4 := by
          rw [lcLoop, hb]
          show ((lcLoop (lcBody call elt tg cond vs ρ) (xs.drop (i + 1)) M').bind _).bind _ = _
          cases lcLoop (lcBody call elt tg cond vs ρ) (xs.drop (i + 1)) M' with
          | none => rfl
          | some q => cases q <;> rfl
        rw [z] at h2
        exact h2
      have S3 : Sl G F3 α (wipeR ρ vs) (wipe σ vs) := (S.mono (e12.trans e3)).wipe vs
      refine ⟨F3, α, d, wipeR ρ vs, ρ', R3.sub, rx, S3, hbind, fun σ2 S2 w2 => ⟨by rw [w2 vs htg, wipe_wipe], ?_⟩⟩
      have tail : ∀ F4 H4, Same F3 F4 → Stp F3 F4 α α H3 H4 → Rp G F4 α M3 H4 → Sl G F4 α ρ' σ2 → (if b = true then tev G E0 call false elt σ2 H4 fun y H5 => ∃ acc, H5 D' = some (.lst acc) ∧ acc.length < sizeLine ∧ P (i + 1) (upd H5 D' (.lst (acc ++ [y]))) else P (i + 1) H4) := by
        intro F4 H4 e4 st4 R4 S4
        obtain ⟨hD4, _⟩ := st4.un D' _ hD3 hDα
        have hF4 := st4.ff D' _ hD3 rfl hDα
        rw [hF3] at hF4
        cases b with
        | false =>
          rw [if_neg (by decide)] at hres ⊢
          obtain ⟨rfl, rfl⟩ := hres
          exact ⟨F4, M', acc, accD, (e12.trans e3).trans e4, (e2.trans e3).trans e4, (st2.trans st3).trans st4, R4, hD4, hF4, dqAll_mono (e3.trans e4) g2, h2⟩
        | true =>
          rw [if_pos rfl] at hres ⊢
          obtain ⟨y, hy, rfl⟩ := hres
          refine ⟨F4, α, ρ', M3, R4, S4, ?_⟩
          rw [hy]
          intro F5 v H5 e5 R5 st5 r5
          obtain ⟨hD5, _⟩ := st5.un D' _ hD4 hDα
          have hF5 := st5.ff D' _ hD4 rfl hDα
          rw [hF4] at hF5
          have hll : acc.length < sizeLine := by
            cases hl : lcLoop (lcBody call elt tg cond vs ρ) (xs.drop (i + 1)) M' with
            | none => rw [hl] at h2; exact (hz h2).elim
            | some q =>
              cases q with
              | error z => exact (lcLoop_noerr hl).elim
              | ok q =>
                obtain ⟨r, M9⟩ := q
                rw [hl] at h2
                have := hlen _ _ h2
                rw [List.length_append, consO, List.length_cons, ← DqAll.length g2] at this
                omega
          refine ⟨acc, hD5, hll, F5, M', acc ++ [v], accD ++ [y], ((e12.trans e3).trans e4).trans e5, ((e2.trans e3).trans e4).trans e5, ?_, R5.beside hF5 hDα, upd_same, hF5, DqAll.append (dqAll_mono ((e3.trans e4).trans e5) g2) (.cons r5 .nil), ?_⟩
          · have z := ((st2.trans st3).trans st4).trans st5
            exact ⟨fun c o hc hn => ⟨by rw [upd_ne (ne_of_none hc hD)]; exact (z.un c o hc hn).1, (z.un c o hc hn).2⟩, z.ff, fun c o u hc => by rw [upd_ne (ne_of_none hc hD)]; exact z.fz c o u hc⟩
          · simpa [List.append_assoc, consO] using h2
      unfold ttOf
      by_cases hn : isNop cond = true
      · rw [if_pos hn]
        cases cond <;> first | (cases hn; done) | skip
        have hc : (Rs.ok (D.d (.bool true)) M2 : Rs D) = Rs.ok (D.d (.bool b)) M3 := hc
        cases hc
        exact tail F3 H3 (Same.refl _) (Stp.refl _ _ _) R3 S2
      · rw [if_neg hn]
        refine ⟨F3, α, ρ', M2, R3, S2, ?_⟩
        rw [hc]
        intro F4 v H4 e4 R4 st4 r4
        exact ⟨b, rv_bool r4, tail F4 H4 e4 st4 R4 (S2.mono e4)⟩
  · have ei : i = xs.length := by omega
    subst ei
    rw [List.drop_length, lcLoop] at h2
    exact .inl ⟨ok.stop H2 sm, fin F2 M2 H2 acc accD e2 st2 R2 hD2 hF2 g2 (by simpa using h2)⟩

theorem lc2Body_ok {elt : E} {tg : Tg} {cond : E} {vs : List Nat} {tg1 : Tg} {it1 cond1 : E} {vs1 : List Nat} {ρ : Rho} {x : D} {M2 : Ms} {r : Except Xc (List PyData × Ms)} (h : lc2Body call elt tg cond vs tg1 it1 cond1 vs1 ρ x M2 = some r) :
    ∃ o M' ρ' b M3, r = .ok (o, M') ∧ bindTg tg x (wipeR ρ vs) = some ρ' ∧ ev call cond ρ' M2 = Rs.ok (.d (.bool b)) M3 ∧
      (if b = true then ∃ w1 M4 xs1, ev call it1 ρ' M3 = Rs.ok w1 M4 ∧ itemsOf w1 = some xs1 ∧ lcLoop (lcBody call elt tg1 cond1 vs1 ρ') xs1 M4 = Rs.ok o M' else o = [] ∧ M' = M3) := by
  unfold lc2Body at h
  cases hb : bindTg tg x (wipeR ρ vs) with
  | none => rw [hb] at h; cases h
  | some ρ' =>
    simp only [hb] at h
    cases hc : ev call cond ρ' M2 with
    | none => rw [hc] at h; cases h
    | some q =>
      rw [hc] at h
      cases q with
      | error z => cases h
      | ok q =>
        obtain ⟨c, M3⟩ := q
        simp only [Rs.bind] at h
        split at h
        · cases hi : ev call it1 ρ' M3 with
          | none => rw [hi] at h; cases h
          | some q =>
            rw [hi] at h
            cases q with
            | error z => cases h
            | ok q =>
              obtain ⟨w1, M4⟩ := q
              simp only [] at h
              cases hw : itemsOf w1 with
              | none => rw [hw] at h; cases h
              | some xs1 =>
                simp only [hw] at h
                cases hl : lcLoop (lcBody call elt tg1 cond1 vs1 ρ') xs1 M4 with
                | none => rw [hl] at h; cases h
                | some q =>
                  cases q with
                  | error z => exact (lcLoop_noerr hl).elim
                  | ok q =>
                    rw [hl] at h
                    obtain ⟨o, M'⟩ := q
                    cases h
                    exact ⟨o, M', ρ', true, M3, rfl, rfl, hc, by rw [if_pos rfl]; exact ⟨w1, M4, xs1, hi, hw, hl⟩⟩
        · cases h
          exact ⟨[], M3, ρ', false, M3, rfl, rfl, hc, by rw [if_neg (by decide)]; exact ⟨rfl, rfl⟩⟩
        · cases h
theorem lcLoopL_noerr {elt : E} {tg : Tg} {cond : E} {vs : List Nat} {tg1 : Tg} {it1 cond1 : E} {vs1 : List Nat} {ρ : Rho} : ∀ {xs : List D} {M : Ms} {x : Xc}, lcLoopL (lc2Body call elt tg cond vs tg1 it1 cond1 vs1 ρ) xs M ≠ some (.error x)
  | [], M, x, h => by rw [lcLoopL] at h; cases h
  | d :: xs, M, x, h => by
    rw [lcLoopL] at h
    cases hb : lc2Body call elt tg cond vs tg1 it1 cond1 vs1 ρ d M with
    | none => rw [hb] at h; cases h
    | some r =>
      obtain ⟨o, M', ρ', b, M3, rfl, _⟩ := lc2Body_ok hb
      rw [hb] at h
      have h : ((lcLoopL (lc2Body call elt tg cond vs tg1 it1 cond1 vs1 ρ) xs M').bind fun r M2 => Rs.ok (o ++ r) M2) = some (.error x) := h
      cases hl : lcLoopL (lc2Body call elt tg cond vs tg1 it1 cond1 vs1 ρ) xs M' with
      | none => rw [hl] at h; cases h
      | some q =>
        cases q with
        | error y => exact lcLoopL_noerr hl
        | ok q => rw [hl] at h; cases h
theorem lc2_read {m : Bool} {elt : E} {tg : Tg} {it cond : E} {vs : List Nat} {tg1 : Tg} {it1 cond1 : E} {vs1 : List Nat} (htg : ∀ i ∈ tgIx tg, i ∈ vs) (htg1 : ∀ i ∈ tgIx tg1, i ∈ vs1) {σ : L2.St} {H : Hp} {Q : VK} (h : tev G W call m (.lc2 elt tg it cond vs tg1 it1 cond1 vs1) σ H Q) :
    tLc2 (tevI G W call it) (gTg G tg) (ttOf G call cond) (tevI G E0 call it1) (gTg G tg1) (ttOf G call cond1) (tev G E0 call false elt) vs vs1 σ H Q := by
  obtain ⟨F0, α, ρ, M0, R0, S0, h⟩ := h
  rw [ev_lc2] at h
  refine ⟨F0, α, ρ, M0, R0, S0, ?_⟩
  cases e : ev call it ρ M0 with
  | none => rw [e] at h; exact h
  | some q =>
  rw [e] at h
  cases q with
  | error x => exact h
  | ok q =>
  obtain ⟨w, M⟩ := q
  have h : WpE G W m F0 α H (match itemsOf w with
    | some xs => (lcLoopL (lc2Body call elt tg cond vs tg1 it1 cond1 vs1 ρ) xs M).bind fun ys M6 => if line ys.length = true then Rs.ok (.d (.list ys)) M6 else none
    | none => none) Q := h
  cases ei : itemsOf w with
  | none => rw [ei] at h; exact h.elim
  | some xs =>
  rw [ei] at h
  refine ⟨xs, ei, fun F J H' e1 R st1 ok hl D' hD => ?_⟩
  have S := S0.mono e1
  have h := WpE.adv e1 st1 R h
  have hDα : D' ∉ α := R.notin hD
  have hDF : F D' = none := R.free hD
  obtain ⟨Zz, hZ⟩ : ∃ Zz : Rs (List PyData) → Prop, Zz = fun r => WpE G W m F α H' (r.bind fun ys M6 => if line ys.length = true then Rs.ok (.d (.list ys)) M6 else none) Q := ⟨_, rfl⟩
  have hz : ¬ Zz none := by rw [hZ]; exact fun z => z
  have hlen : ∀ l M, Zz (Rs.ok l M) → l.length ≤ sizeLine := by
    rw [hZ]
    intro l M z
    have z : WpE G W m F α H' (if line l.length = true then Rs.ok (.d (.list l)) M else none) Q := z
    split at z
    · rename_i hl; exact line_le hl
    · exact z.elim
  have h : Zz (lcLoopL (lc2Body call elt tg cond vs tg1 it1 cond1 vs1 ρ) xs M) := by rw [hZ]; exact h
  have fin : ∀ F2 M2 H2 acc accD, Same F F2 → Stp F F2 α α H' H2 → Rp G F2 α M2 H2 → H2 D' = some (.lst acc) → F2 D' = none → DqAll F2 acc accD → Zz (Rs.ok accD M2) → Q (.ref D') H2 := by
    rw [hZ]
    intro F2 M2 H2 acc accD e2 st2 R2 hD2 hF2 g2 z
    have h2 : WpE G W m F α H' (if line accD.length = true then Rs.ok (.d (.list accD)) M2 else none) Q := z
    split at h2
    · cases m with
      | false =>
        refine h2 (upd F2 D' (.lst acc)) (.ref D') H2 (e2.trans (same_upd hF2)) (R2.freeze hD2 hF2 (R.notin hD)) ?_ (.lst upd_same (dqAll_mono (same_upd hF2) g2))
        exact ⟨st2.un, fun b xs hb ht hn => by rw [upd_ne (ne_of_none hb hD)]; exact st2.ff b _ hb ht hn, st2.fz⟩
      | true =>
        obtain ⟨ys, hd, h2⟩ := h2
        cases hd
        exact h2 F2 D' acc H2 e2 R2 st2 hD hD2 hF2 g2
    · exact h2.elim
  clear hZ
  let P : Nat → Hp → Prop := fun i H2 => ∃ F2 M2 acc accD, Same F F2 ∧ Stp F F2 α α H' H2 ∧ Rp G F2 α M2 H2 ∧ H2 D' = some (.lst acc) ∧ F2 D' = none ∧ DqAll F2 acc accD ∧
    Zz ((lcLoopL (lc2Body call elt tg cond vs tg1 it1 cond1 vs1 ρ) (xs.drop i) M2).bind fun ys M6 => Rs.ok (accD ++ ys) M6)
  refine ⟨fun i mm H2 => mm = xs.length - i ∧ i ≤ xs.length ∧ P i H2, ⟨xs.length, by simp, Nat.zero_le _, F, M, [], [], Same.refl _, Stp.updH hD, R.newH hD, upd_same, hDF, .nil, by simpa [bind_id] using h⟩, ?_⟩
  rintro i mm H2 ⟨rfl, hi, F2, M2, acc, accD, e2, st2, R2, hD2, hF2, g2, h2⟩
  have sm : Same F H2 := fun b o q => R2.sub b o (e2 b o q)
  by_cases hlt : i < xs.length
  · refine .inr ⟨ok.go i H2 hlt sm, P (i + 1), fun H' p => ⟨xs.length - (i + 1), by omega, rfl, hlt, p⟩, fun x H3 y => ?_⟩
    obtain ⟨d, hd, hx⟩ := ok.yld i H2 x H3 hlt sm y
    obtain ⟨F3, e3, st3, R3, rx, hD3, hF3⟩ : ∃ F3, Same F2 F3 ∧ Stp F2 F3 α α H2 H3 ∧ Rp G F3 α M2 H3 ∧ RV G F3 α d x ∧ H3 D' = some (.lst acc) ∧ F3 D' = none := by
      rcases hx with ⟨rfl, r⟩ | ⟨t, ws, ds, ht, rfl, rfl, rfl, g⟩ | ⟨t, ks, rfl, rfl, ht, rfl⟩
      · exact ⟨F2, Same.refl _, Stp.refl _ _ _, R2, r.mono e2, hD2, hF2⟩
      · have hne : D' ≠ t := ne_of_none hD2 ht
        refine ⟨upd F2 t (.tup ws), same_upd (R2.free ht), Stp.upd ht, R2.new ht, ?_, by rw [upd_ne hne]; exact hD2, by rw [upd_ne hne]; exact hF2⟩
        exact .tup upd_same (dqAll_mono (e2.trans (same_upd (R2.free ht))) g)
      · obtain ⟨F3, e3, st3, R3, h3, hk⟩ := R2.takeT ht
        refine ⟨F3, e3, st3, R3, .tup h3 (keys_dq F3 ks), hD2, ?_⟩
        rw [st3.ff D' _ hD2 rfl hDα]; exact hF2
    have hdrop : xs.drop i = d :: xs.drop (i + 1) := by
      rw [List.drop_eq_getElem_cons hlt]
      congr 1
      exact (List.getElem?_eq_some_iff.mp hd).2
    rw [hdrop] at h2
    cases hb : lc2Body call elt tg cond vs tg1 it1 cond1 vs1 ρ d M2 with
    | none =>
      unfold lcLoopL at h2
      rw [hb] at h2
      exact (hz h2).elim
    | some r =>
      obtain ⟨o, M', ρ', b, M3, rfl, hbind, hc, hres⟩ := lc2Body_ok hb
      have h2 : Zz ((lcLoopL (lc2Body call elt tg cond vs tg1 it1 cond1 vs1 ρ) (xs.drop (i + 1)) M').bind fun r M4 => Rs.ok ((accD ++ o) ++ r) M4) := by
        have z : (lcLoopL (lc2Body call elt tg cond vs tg1 it1 cond1 vs1 ρ) (d :: xs.drop (i + 1)) M2).bind (fun ys M6 => Rs.ok (accD ++ ys) M6) = (lcLoopL (lc2Body call elt tg cond vs tg1 it1 cond1 vs1 ρ) (xs.drop (i + 1)) M').bind fun r M4 => Rs.ok ((accD ++ o) ++ r) M4 := by
          rw [lcLoopL, hb]
          show ((lcLoopL (lc2Body call elt tg cond vs tg1 it1 cond1 vs1 ρ) (xs.drop (i + 1)) M').bind _).bind _ = _
          cases lcLoopL (lc2Body call elt tg cond vs tg1 it1 cond1 vs1 ρ) (xs.drop (i + 1)) M' with
          | none => rfl
          | some q =>
            cases q with
            | error z => rfl
            | ok q => simp [Rs.bind, Rs.ok, List.append_assoc]
        rw [z] at h2
        exact h2
      have S3 : Sl G F3 α (wipeR ρ vs) (wipe σ vs) := (S.mono (e2.trans e3)).wipe vs
      refine ⟨F3, α, d, wipeR ρ vs, ρ', R3.sub, rx, S3, hbind, fun σ2 S2 w2 => ⟨by rw [w2 vs htg, wipe_wipe], ?_⟩⟩
      have tail : ∀ F4 H4, Same F3 F4 → Stp F3 F4 α α H3 H4 → Rp G F4 α M3 H4 → Sl G F4 α ρ' σ2 → (if b = true then tevI G E0 call it1 σ2 H4 fun J1 H5 => ∃ W1 : Nat → Nat → Hp → Prop, (∃ m, W1 0 m H5) ∧ ∀ j k H, W1 j k H →
          (J1.stop j H ∧ P (i + 1) H) ∨ (J1.go j H ∧ ∃ Nx1 : Hp → Prop, (∀ H', Nx1 H' → ∃ k', k' < k ∧ W1 (j + 1) k' H') ∧ ∀ x H', J1.yld j H x H' → gTg G tg1 x (wipe σ2 vs1) H' fun σ3 H5 => wipe σ3 vs1 = wipe σ2 vs1 ∧ ttOf G call cond1 σ3 H5 fun b H6 =>
            if b = true then tev G E0 call false elt σ3 H6 fun y H7 => ∃ acc, H7 D' = some (.lst acc) ∧ acc.length < sizeLine ∧ Nx1 (upd H7 D' (.lst (acc ++ [y]))) else Nx1 H6) else P (i + 1) H4) := by
        intro F4 H4 e4 st4 R4 S4
        obtain ⟨hD4, _⟩ := st4.un D' _ hD3 hDα
        have hF4 := st4.ff D' _ hD3 rfl hDα
        rw [hF3] at hF4
        cases b with
        | false =>
          rw [if_neg (by decide)] at hres ⊢
          obtain ⟨rfl, rfl⟩ := hres
          exact ⟨F4, M', acc, accD, (e2.trans e3).trans e4, (st2.trans st3).trans st4, R4, hD4, hF4, dqAll_mono (e3.trans e4) g2, by simpa using h2⟩
        | true =>
          rw [if_pos rfl] at hres ⊢
          obtain ⟨w1, M4, xs1, hi1, hw1, hl1⟩ := hres
          refine ⟨F4, α, ρ', M3, R4, S4, ?_⟩
          rw [hi1]
          refine ⟨xs1, hw1, fun F5 J1 H5 e5 R5 st5 ok1 hlx => ?_⟩
          obtain ⟨hD5, _⟩ := st5.un D' _ hD4 hDα
          have hF5 := st5.ff D' _ hD4 rfl hDα
          rw [hF4] at hF5
          refine in_loop (Zz := fun r => Zz (r.bind fun ys M6 => (lcLoopL (lc2Body call elt tg cond vs tg1 it1 cond1 vs1 ρ) (xs.drop (i + 1)) M6).bind fun zs M7 => Rs.ok (ys ++ zs) M7)) hz (fun l M z => ?_) htg1 hD hDα
            (((e2.trans e3).trans e4).trans e5) (((st2.trans st3).trans st4).trans st5) R5 (S4.mono e5) ok1 hD5 hF5 (dqAll_mono ((e3.trans e4).trans e5) g2) (fun F6 M6 H6 acc6 accD6 e6 st6 R6 hD6 hF6 g6 z => ?_) (by rw [hl1]; exact h2)
          · have z : Zz ((lcLoopL (lc2Body call elt tg cond vs tg1 it1 cond1 vs1 ρ) (xs.drop (i + 1)) M).bind fun zs M7 => Rs.ok (l ++ zs) M7) := z
            cases hq : lcLoopL (lc2Body call elt tg cond vs tg1 it1 cond1 vs1 ρ) (xs.drop (i + 1)) M with
            | none => rw [hq] at z; exact (hz z).elim
            | some q =>
              cases q with
              | error y => exact (lcLoopL_noerr hq).elim
              | ok q =>
                rw [hq] at z
                have := hlen _ _ z
                rw [List.length_append] at this
                omega
          · exact ⟨F6, M6, acc6, accD6, e6, st6, R6, hD6, hF6, g6, z⟩
      unfold ttOf
      by_cases hn : isNop cond = true
      · rw [if_pos hn]
        cases cond <;> first | (cases hn; done) | skip
        have hc : (Rs.ok (D.d (.bool true)) M2 : Rs D) = Rs.ok (D.d (.bool b)) M3 := hc
        cases hc
        exact tail F3 H3 (Same.refl _) (Stp.refl _ _ _) R3 S2
      · rw [if_neg hn]
        refine ⟨F3, α, ρ', M2, R3, S2, ?_⟩
        rw [hc]
        intro F4 v H4 e4 R4 st4 r4
        exact ⟨b, rv_bool r4, tail F4 H4 e4 st4 R4 (S2.mono e4)⟩
  · have ei : i = xs.length := by omega
    subst ei
    rw [List.drop_length, lcLoopL] at h2
    exact .inl ⟨ok.stop H2 sm, fin F2 M2 H2 acc accD e2 st2 R2 hD2 hF2 g2 (by simpa using h2)⟩
end
end Ob

set_option Elab.async false
set_option linter.all false
set_option maxRecDepth 100000
set_option maxHeartbeats 4000000
namespace Ob
open PySem PySem.Spec PyProof.Rows L2
section
variable {G : Gx} {T : Tab} {N : List Str} {call : Nat → List D → Ms → Rs D} {W : XK} {X : Cx} {s0 sc : Scope}
/-! ### an own object that is walked -/
theorem Rp.setM {F H : Hp} {α : List Addr} {M : Ms} (R : Rp G F α M H) {n : Nat} {a : Addr} {m : MO} {o : HO} (ha : α[n]? = some a) (h : MoOk G F (upd H a o) a m) : Rp G F α (M.set n m) (upd H a o) := by
  have hm : a ∈ α := List.mem_of_getElem? ha
  refine ⟨fun b u e => ?_, by simp [R.len], R.nd, R.off, fun j b mo h1 h2 => ?_⟩
  · have : b ≠ a := fun q => by rw [q, R.off a hm] at e; cases e
    rw [upd_ne this]; exact R.sub b u e
  · by_cases hj : n = j
    · subst hj
      rw [ha] at h1; cases h1
      have hn : n < M.length := by rw [← R.len]; exact (List.getElem?_eq_some_iff.mp ha).1
      rw [List.getElem?_set_self hn] at h2
      cases h2
      exact h
    · rw [List.getElem?_set_ne hj] at h2
      have : b ≠ a := fun q => by
        subst q
        obtain ⟨l1, e1⟩ := List.getElem?_eq_some_iff.mp ha
        obtain ⟨l2, e2⟩ := List.getElem?_eq_some_iff.mp h1
        exact hj ((List.getElem_inj R.nd).mp (e1.trans e2.symm))
      exact (R.ok j b mo h1 h2).mono (Same.refl _) fun u e => by rw [upd_ne this]; exact e
/-- what an own object is, locked -/
inductive Lck (G : Gx) (F : Hp) : HO → MO → MO → List D → Prop where
  | l {vs : List V} {xs : List PyData} : DqAll F vs xs → Lck G F (.lst vs) (.lst xs) (.zL xs) (xs.map .d)
  | k {ws : List (Key × V)} {kvs : List (Key × PyData)} : KvOk G F ws kvs → kvs.length ≤ sizeLine → Lck G F (.dK ws) (.dK kvs) (.zK kvs) (kvs.map fun kv => .d (keyD kv.1))
  | t {ws : List (List Key × V)} {kvs : List (List Key × PyData)} : KvOk G F ws kvs → kvs.length ≤ sizeLine → Lck G F (.dT ws) (.dT kvs) (.zT kvs) (kvs.map fun kv => .d (.tuple (kv.1.map keyD)))
theorem lock_ok {F H : Hp} {α : List Addr} {M M1 : Ms} (R : Rp G F α M H) {n : Nat} {a : Addr} {xs : List D} (ha : α[n]? = some a) (h : lockO M n = some (xs, M1)) : ∃ u m z, H a = some u ∧ L2.Mut (some u) ∧ Lck G F u m z xs ∧ M1 = M.set n z ∧ ∀ od, MoOk G F (upd H a (.frz od u)) a z := by
  unfold lockO at h
  cases q : M[n]? with
  | none => rw [q] at h; cases h
  | some mo =>
    rw [q] at h
    have z := R.ok n a mo ha q
    cases mo with
    | lst ys => cases h; obtain ⟨vs, e, g⟩ := z; exact ⟨_, _, _, e, trivial, .l g, rfl, fun od => ⟨od, vs, upd_same, g⟩⟩
    | dK kvs =>
      simp only at h
      split at h
      · rename_i hl
        cases h
        obtain ⟨ws, e, g⟩ := z
        exact ⟨_, _, _, e, trivial, .k g (line_le hl), rfl, fun od => ⟨od, ws, upd_same, g⟩⟩
      · cases h
    | dT kvs =>
      simp only at h
      split at h
      · rename_i hl
        cases h
        obtain ⟨ws, e, g⟩ := z
        exact ⟨_, _, _, e, trivial, .t g (line_le hl), rfl, fun od => ⟨od, ws, upd_same, g⟩⟩
      · cases h
    | _ => cases h
theorem unlock_ok {F H : Hp} {α : List Addr} {M M1 : Ms} (R : Rp G F α M H) {n : Nat} {a : Addr} {od : Obj} {u : HO} (ha : α[n]? = some a) (hu : H a = some (.frz od u)) (h : unlockO M n = some M1) : Rp G F α M1 (upd H a u) := by
  unfold unlockO at h
  cases q : M[n]? with
  | none => rw [q] at h; cases h
  | some mo =>
    rw [q] at h
    have z := R.ok n a mo ha q
    cases mo with
    | zL ys => cases h; obtain ⟨o, vs, e, g⟩ := z; rw [hu] at e; cases e; exact R.setM ha ⟨vs, upd_same, g⟩
    | zK ys => cases h; obtain ⟨o, vs, e, g⟩ := z; rw [hu] at e; cases e; exact R.setM ha ⟨vs, upd_same, g⟩
    | zT ys => cases h; obtain ⟨o, vs, e, g⟩ := z; rw [hu] at e; cases e; exact R.setM ha ⟨vs, upd_same, g⟩
    | _ => cases h
theorem mut_nofrz {od : Obj} {u : HO} (h : L2.Mut (some (.frz od u))) : False := h
/-- a walk of what is locked at a: w tells which -/
def wOwn (K : PySem.W.Frag) (i : Nat) : TI := fun σ H R => ∃ a od, σ[i]? = some (some (.ref a)) ∧
  ((∃ vs, H a = some (.frz od (.lst vs)) ∧ (vs.length ≤ sizeLine → R (Itl K a) H)) ∨ (∃ ws, H a = some (.frz od (.dK ws)) ∧ R (Itk a od ws) H) ∨ ∃ ws, H a = some (.frz od (.dT ws)) ∧ R (Itkt a od ws) H)
theorem pi_own {tg : Expr} {i : Nat} {x : Str} {pos : Pos} (hN : X.N[i]? = some x) (hv : Vis X.env.scope x) (hd : (x == ("__debug__" : Str)) = false) (hcd : (x == ("__classdict__" : Str)) = false) : PI X tg (.Name x pos) (wOwn X.K i) := by
  have pe : PE X (.Name x pos) (tVar i) := pe_var hN hv hd hcd
  refine ⟨fun pins s σ H R I h => ?_⟩
  obtain ⟨a, od, hs, h⟩ := h
  rcases h with ⟨vs, e, h⟩ | ⟨ws, e, h⟩ | ⟨ws, e, h⟩
  · exact (pi_seq (tg := tg) pe).run pins s σ H R I ⟨_, hs, a, vs, rfl, .inl ⟨.inl (.inr ⟨od, e⟩), h⟩⟩
  · exact (pi_keys (tg := tg) pe).run pins s σ H R I ⟨_, hs, a, od, rfl, .inl ⟨ws, e, h⟩⟩
  · exact (pi_keys (tg := tg) pe).run pins s σ H R I ⟨_, hs, a, od, rfl, .inr ⟨ws, e, h⟩⟩
theorem wOwn_of {F H : Hp} {α : List Addr} {a : Addr} {od : Obj} {u : HO} {m z : MO} {xs : List D} (l : Lck G F u m z xs) {σ : L2.St} {i : Nat} (hs : σ[i]? = some (some (.ref a))) (hH : H a = some (.frz od u)) {R : It → Hp → Prop}
    (k : ∀ J, ItOk G F α J xs (fun H => H a = some (.frz od u)) → xs.length ≤ sizeLine → R J H) : wOwn G.K i σ H R := by
  refine ⟨a, od, hs, ?_⟩
  cases l with
  | @l vs xs g =>
    refine .inl ⟨vs, hH, fun hl => k _ ?_ (by simpa [← DqAll.length g] using hl)⟩
    have w := walk_list (K := G.K) (a := a) (xs := vs)
    have l := DqAll.length g
    refine ⟨fun i H hi s => w.goes i H (by rw [l]; simpa using hi) (.inl (.inr ⟨od, s⟩)), fun H s => ?_, fun i H x H' hi s y => ?_⟩
    · have := w.stops H (.inl (.inr ⟨od, s⟩))
      rw [l] at this
      simpa using this
    · obtain ⟨e, hx⟩ := w.yields i H x H' (by rw [l]; simpa using hi) (.inl (.inr ⟨od, s⟩)) y
      obtain ⟨d, hd, r⟩ := DqAll.get' g hx
      exact ⟨.d d, by simp [hd], .inl ⟨e, r⟩⟩
  | @k ws kvs g hz =>
    refine .inr (.inl ⟨ws, hH, k _ ?_ (by simpa using hz)⟩)
    have w := walk_keys (d := a) (o := od) (kvs := ws)
    have l : ws.length = kvs.length := Paired.length g
    have ke := kv_keys g
    refine ⟨fun i H hi s => w.goes i H (by rw [l]; simpa using hi) s, fun H s => ?_, fun i H x H' hi s y => ?_⟩
    · have := w.stops H s
      rw [l] at this
      simpa using this
    · obtain ⟨e, k, v, hk, hx⟩ := w.yields i H x H' (by rw [l]; simpa using hi) s y
      have h1 : (kvs.map (·.1))[i]? = some k := by rw [← ke]; simp [hk]
      obtain ⟨q, hq, hq2⟩ : ∃ q, kvs[i]? = some q ∧ q.1 = k := by
        rw [List.getElem?_map] at h1
        cases e2 : kvs[i]? with
        | none => rw [e2] at h1; cases h1
        | some q => rw [e2] at h1; exact ⟨q, rfl, Option.some.inj h1⟩
      refine ⟨.d (keyD k), by simp [hq, hq2], .inl ⟨e, ?_⟩⟩
      subst hx
      cases k with
      | inl i => exact .int i
      | inr s => exact .str s
  | @t ws kvs g hz =>
    refine .inr (.inr ⟨ws, hH, k _ ?_ (by simpa using hz)⟩)
    have w := walk_keysT (d := a) (o := od) (kvs := ws)
    have l : ws.length = kvs.length := Paired.length g
    have ke := kv_keys g
    refine ⟨fun i H hi s => w.goes i H (by rw [l]; simpa using hi) s, fun H s => ?_, fun i H x H' hi s y => ?_⟩
    · have := w.stops H s
      rw [l] at this
      simpa using this
    · obtain ⟨e, k, v, q, hk, hx, hq⟩ := w.yields i H x H' (by rw [l]; simpa using hi) s y
      have h1 : (kvs.map (·.1))[i]? = some k := by rw [← ke]; simp [hk]
      obtain ⟨p, hp, hp2⟩ : ∃ p, kvs[i]? = some p ∧ p.1 = k := by
        rw [List.getElem?_map] at h1
        cases e2 : kvs[i]? with
        | none => rw [e2] at h1; cases h1
        | some q => rw [e2] at h1; exact ⟨q, rfl, Option.some.inj h1⟩
      subst hp2
      exact ⟨_, by rw [List.getElem?_map, hp]; rfl, .inr (.inr ⟨q, p.1, e, hx, hq, rfl⟩)⟩
theorem ev_lcO (elt : E) (tg : Tg) (i : Nat) (cond : E) (vs : List Nat) (ρ : Rho) (M : Ms) : ev call (.lcO elt tg i cond vs) ρ M = match ρ.getD i none with
    | some (.own n) => match lockO M n with
      | some (xs, M1) => (lcLoop (lcBody call elt tg cond vs ρ) xs M1).bind fun ys M6 => match unlockO M6 n with
        | some M7 => Rs.ok (.d (.list ys)) M7
        | none => none
      | none => none
    | _ => none := by
  rw [ev]
  rfl
theorem lcO_read {m : Bool} {elt : E} {tg : Tg} {i : Nat} {cond : E} {vs : List Nat} (htg : ∀ i ∈ tgIx tg, i ∈ vs) {σ : L2.St} {H : Hp} {Q : VK} (h : tev G W call m (.lcO elt tg i cond vs) σ H Q) :
    tLockE (tLc (wOwn G.K i) (gTg G tg) (ttOf G call cond) (tev G E0 call false elt) vs) σ H Q := by
  obtain ⟨F, α, ρ, M, R, S, h⟩ := h
  rw [ev_lcO] at h
  split at h
  · rename_i n hn
    obtain ⟨v, hs, a, ha, rfl⟩ := S.getD hn
    split at h
    · rename_i xs M1 hlk
      obtain ⟨u, mo, z, hu, mu, lk, rfl, hmo⟩ := lock_ok R ha hlk
      refine ⟨a, u, hu, mu, fun od => ?_⟩
      have hα : a ∈ α := List.mem_of_getElem? ha
      have R1 : Rp G F α (M.set n z) (upd H a (.frz od u)) := R.setM ha (hmo od)
      refine wOwn_of (α := α) lk hs upd_same fun J ok hl D' hD => ?_
      have hDa : D' ≠ a := fun q => by rw [q, upd_same] at hD; cases hD
      refine lc_loop (Q := fun v H' => H' a = some (.frz od u) ∧ Q v (upd H' a u)) (Zz := fun r => WpE G W m F α H (r.bind fun ys M6 => match unlockO M6 n with
        | some M7 => Rs.ok (.d (.list ys)) M7
        | none => none) Q) (fun z => z) htg R1 S (fun F2 M2 H2 e2 st2 R2 => st2.fz a od u upd_same) ok hl hD (fun F2 M2 H2 acc accD e2 st2 R2 hD2 hF2 g2 h2 => ?_) h
      have hu2 := st2.fz a od u upd_same
      refine ⟨hu2, ?_⟩
      have h2 : WpE G W m F α H (match unlockO M2 n with
        | some M7 => Rs.ok (.d (.list accD)) M7
        | none => none) Q := h2
      cases hul : unlockO M2 n with
      | none => rw [hul] at h2; exact h2.elim
      | some M7 =>
        rw [hul] at h2
        have R3 := unlock_ok R2 ha hu2 hul
        have hHD : H D' = none := by rw [upd_ne hDa] at hD; exact hD
        have st3 : Stp F F2 α α H (upd H2 a u) := by
          refine ⟨fun b o hb hn => ?_, fun b xs hb ht hn => ?_, fun b o w hb => ?_⟩
          · have hba : b ≠ a := fun q => hn (q ▸ hα)
            obtain ⟨x1, x2⟩ := st2.un b o (by rw [upd_ne hba]; exact hb) hn
            exact ⟨by rw [upd_ne hba]; exact x1, x2⟩
          · have hba : b ≠ a := fun q => hn (q ▸ hα)
            exact st2.ff b _ (by rw [upd_ne hba]; exact hb) ht hn
          · have hba : b ≠ a := fun q => by rw [q, hu] at hb; cases hb; exact mu
            rw [upd_ne hba]
            exact st2.fz b o w (by rw [upd_ne hba]; exact hb)
        have hD3 : (upd H2 a u) D' = some (.lst acc) := by rw [upd_ne hDa]; exact hD2
        cases m with
        | false =>
          refine h2 (upd F2 D' (.lst acc)) (.ref D') _ (e2.trans (same_upd hF2)) (R3.freeze hD3 hF2 (R.notin hHD)) ?_ (.lst upd_same (dqAll_mono (same_upd hF2) g2))
          exact ⟨st3.un, fun b xs hb ht hn => by rw [upd_ne (ne_of_none hb hHD)]; exact st3.ff b _ hb ht hn, st3.fz⟩
        | true =>
          obtain ⟨ys, hd, h2⟩ := h2
          cases hd
          exact h2 F2 D' acc _ e2 R3 st3 hHD hD3 hF2 g2
    · exact h.elim
  · exact h.elim
end
end Ob

set_option Elab.async false
set_option linter.all false
set_option maxRecDepth 100000
set_option maxHeartbeats 8000000
namespace Ob
open PySem PySem.Spec PyProof.Rows L2
section
variable {G : Gx} {T : Tab} {N : List Str} {call : Nat → List D → Ms → Rs D}
theorem rvs_nil {F : Hp} {α : List Addr} {vs : List V} (h : RVs G F α [] vs) : vs = [] := by cases h; rfl
/-- what is asked of a part of a slice -/
def tO (G : Gx) (W : XK) (call : Nat → List D → Ms → Rs D) (e : E) : TO := if isNop e = true then tNoPart else tPart (tev G W call false e)
theorem tO_step {W : XK} {e : E} {m : Bool} {F : Hp} {α : List Addr} {ρ : Rho} {M : Ms} {σ : L2.St} {H : Hp} {Q : VK} {k : Option Int → Ms → Rs D} {Q' : Option Int → Hp → Prop}
    (h : WpE G W m F α H ((ev call e ρ M).bind fun l M1 => match partI e l with
      | some l => k l M1
      | none => none) Q) (R : Rp G F α M H) (S : Sl G F α ρ σ)
    (f : ∀ l M1 F1 H1, Same F F1 → Stp F F1 α α H H1 → Rp G F1 α M1 H1 → Sl G F1 α ρ σ → WpE G W m F1 α H1 (k l M1) Q → Q' l H1) : tO G W call e σ H Q' := by
  unfold tO
  by_cases hn : isNop e = true
  · rw [if_pos hn]
    cases e <;> first | (cases hn; done) | skip
    exact f none M F H (Same.refl _) (Stp.refl _ _ _) R S h
  · rw [if_neg hn]
    refine tev_step h R S fun d M1 F1 v H1 e1 st1 R1 S1 rv h1 => ?_
    have e2 : partI e d = intO d := by unfold partI; rw [if_neg hn]
    rw [e2] at h1
    unfold intO at h1
    split at h1
    · rename_i l hl
      split at hl
      · cases hl
        exact ⟨_, rv_int rv, f _ M1 F1 H1 e1 st1 R1 S1 h1⟩
      · cases hl
    · exact h1.elim
/-- the names of built-in functions -/
theorem bt_in (b : Bt) : b ≠ .gcd → (btName b).1 ∈ bltNames := by cases b <;> first | (intro _; decide +kernel) | (intro h; exact absurd rfl h)
theorem keyN : ("isinstance" : Str) ∈ bltNames ∧ ("range" : Str) ∈ bltNames ∧ ("zip" : Str) ∈ bltNames ∧ ("enumerate" : Str) ∈ bltNames ∧ ("list" : Str) ∈ bltNames ∧ ("tuple" : Str) ∈ bltNames := by
  decide +kernel
theorem ty_in (t : Ty) : tyName t ∈ bltNames := by cases t <;> decide +kernel
def tyStr : Ty → String
  | .int => "int" | .bool => "bool" | .tuple => "tuple" | .str => "str"
theorem ty_boot (t : Ty) : bootBuiltins (tyName t) = some (.type (tyStr t)) := by cases t <;> decide +kernel
def dTy : PyData → String
  | .none => "NoneType" | .bool _ => "bool" | .int _ => "int" | .str _ => "str" | .list _ => "list" | .tuple _ => "tuple" | .dict _ => "dict"
theorem ty_kit (t : Ty) (x : PyData) (h : ∀ k, x ≠ .dict k) : kitB (dTy x) (tyStr t) = some (isTy t x) := by
  cases x with
  | dict k => exact absurd rfl (h k)
  | none => cases t <;> (show kitB _ _ = some _) <;> (simp only [dTy, tyStr, isTy]; decide +kernel)
  | bool b => cases t <;> (simp only [dTy, tyStr, isTy]; decide +kernel)
  | int b => cases t <;> (simp only [dTy, tyStr, isTy]; decide +kernel)
  | str b => cases t <;> (simp only [dTy, tyStr, isTy]; decide +kernel)
  | list b => cases t <;> (simp only [dTy, tyStr, isTy]; decide +kernel)
  | tuple b => cases t <;> (simp only [dTy, tyStr, isTy]; decide +kernel)
theorem dq_ty {K : PySem.W.Frag} {F H : Hp} (e : Same F H) {v : V} {x : PyData} (h : Dq F v x) : TyX K H v (.type (dTy x)) ∧ ∀ k, x ≠ .dict k := by
  cases h with
  | non => exact ⟨.base .non, fun k z => by cases z⟩
  | bl b => exact ⟨.base (.bl b), fun k z => by cases z⟩
  | int b => exact ⟨.base (.int b), fun k z => by cases z⟩
  | str b => exact ⟨.base (.str b), fun k z => by cases z⟩
  | lst h g => exact ⟨.base (.lst (e _ _ h)), fun k z => by cases z⟩
  | tup h g => exact ⟨.base (.tup (e _ _ h)), fun k z => by cases z⟩
theorem getD_lk {F : Hp} {o : Option PyData} {ov : Option V} (h : Lk F o ov) : Dq F (ov.getD .non) (o.getD .none) := by
  cases o with
  | none => have h : ov = none := h; subst h; exact .non
  | some x => obtain ⟨w, h, r⟩ := h; subst h; exact r
theorem getD_lk2 {F : Hp} {o : Option PyData} {ov : Option V} {z : PyData} {w : V} (h : Lk F o ov) (r : Dq F w z) : Dq F (ov.getD w) (o.getD z) := by
  cases o with
  | none => have h : ov = none := h; subst h; exact r
  | some x => obtain ⟨w, h, r⟩ := h; subst h; exact r
theorem rangeD_eq {a b c : Int} {xs : List D} (h : rangeD a b c = some xs) : (-(2 ^ 62) ≤ a ∧ a < 2 ^ 62 ∧ -(2 ^ 62) ≤ b ∧ b < 2 ^ 62 ∧ line (b - a).toNat = true ∧ line (a - b).toNat = true) ∧
    ((c = 1 ∧ xs = (List.range (b - a).toNat).map fun i => .d (.int (a + (i : Nat)))) ∨ (c = -1 ∧ xs = (List.range (a - b).toNat).map fun i => .d (.int (a - (i : Nat))))) := by
  unfold rangeD at h
  split at h
  · rename_i hb
    refine ⟨hb, ?_⟩
    split at h
    · cases h; exact .inl ⟨by assumption, rfl⟩
    · split at h
      · cases h; exact .inr ⟨by assumption, rfl⟩
      · cases h
  · cases h
theorem rgV_dq {F : Hp} {a b : Int} {zs : List PyData} (h : datas ((List.range (b - a).toNat).map fun i => D.d (.int (a + (i : Nat)))) = some zs) : DqAll F (rgV a b) zs ∧ zs.length = (b - a).toNat := by
  have key : ∀ (l : List Nat) (zs : List PyData), datas (l.map fun i => D.d (.int (a + (i : Nat)))) = some zs → DqAll F (l.map fun i => V.int (a + (i : Nat))) zs ∧ zs.length = l.length := by
    intro l
    induction l with
    | nil => intro zs h; simp [datas] at h; subst h; exact ⟨.nil, rfl⟩
    | cons i l ih =>
      intro zs h
      simp only [List.map_cons, datas, Option.map_eq_some_iff] at h
      obtain ⟨ys, h1, rfl⟩ := h
      obtain ⟨g, e⟩ := ih ys h1
      exact ⟨.cons (.int _) g, by simp [e]⟩
  have z := key _ zs h
  simpa [rgV] using z
/-! ### what is walked, from its parts -/
def lenE : Es → Nat
  | .nil => 0
  | .cons _ b => lenE b + 1
theorem evs_len : ∀ {es : Es} {ρ : Rho} {M M1 : Ms} {ds : List D}, evs call es ρ M = some (.ok (ds, M1)) → ds.length = lenE es
  | .nil, ρ, M, M1, ds, h => by rw [evs] at h; cases h; rfl
  | .cons a b, ρ, M, M1, ds, h => by
    rw [evs] at h
    cases e1 : ev call a ρ M with
    | none => rw [e1] at h; cases h
    | some q =>
      cases q with
      | error x => rw [e1] at h; cases h
      | ok q =>
        obtain ⟨d1, M2⟩ := q
        rw [e1] at h
        have h : ((evs call b ρ M2).bind fun xs M2 => Rs.ok (d1 :: xs) M2) = some (.ok (ds, M1)) := h
        cases e2 : evs call b ρ M2 with
        | none => rw [e2] at h; cases h
        | some q =>
          cases q with
          | error x => rw [e2] at h; cases h
          | ok q =>
            obtain ⟨d2, M3⟩ := q
            rw [e2] at h
            cases h
            simp [lenE, evs_len e2]
theorem mts_len {sc : Scope} : ∀ {es : Es} {xs : List Expr}, mts T N sc es xs = true → xs.length = lenE es
  | .nil, xs, h => by
    unfold mts at h
    cases xs with
    | nil => rfl
    | cons a b => cases h
  | .cons a b, xs, h => by
    cases xs with
    | nil => unfold mts at h; cases h
    | cons y ys =>
      have h : (plainX y && mt T N false sc a y && mts T N sc b ys) = true := h
      simp only [Bool.and_eq_true] at h
      simp [lenE, mts_len h.2]
theorem mts_cons {sc : Scope} {es : Es} {y : Expr} {ys : List Expr} (h : mts T N sc es (y :: ys) = true) : plainX y = true ∧ ∃ a b, es = .cons a b ∧ mt T N false sc a y = true ∧ mts T N sc b ys = true := by
  cases es with
  | nil => unfold mts at h; cases h
  | cons a b =>
    have h : (plainX y && mt T N false sc a y && mts T N sc b ys) = true := h
    simp only [Bool.and_eq_true] at h
    exact ⟨h.1.1, a, b, rfl, h.1.2, h.2⟩
def WpI (G : Gx) (W : XK) (F : Hp) (α : List Addr) (H : Hp) (r : Rs D) (R : It → Hp → Prop) : Prop := match r with
  | none => False
  | some (.error x) => exP G W x F α H
  | some (.ok (d, M')) => ∃ xs, itemsOf d = some xs ∧ ∀ F' J H', Same F F' → Rp G F' α M' H' → Stp F F' α α H H' → ItOk G F' α J xs (Same F') → xs.length ≤ sizeLine → R J H'
theorem tevA_stepI {W : XK} {es : Es} {k : List D → Ms → Rs D} {F : Hp} {α : List Addr} {ρ : Rho} {M : Ms} {σ : L2.St} {H : Hp} {R' : It → Hp → Prop} {Q' : List V → Hp → Prop} (h : WpI G W F α H ((evs call es ρ M).bind k) R') (R : Rp G F α M H) (S : Sl G F α ρ σ)
    (f : ∀ ds M1 F1 vs H1, Same F F1 → Stp F F1 α α H H1 → Rp G F1 α M1 H1 → RVs G F1 α ds vs → ds.length = lenE es → WpI G W F α H (k ds M1) R' → Q' vs H1) : tevA G W call es σ H Q' := by
  refine ⟨F, α, ρ, M, R, S, ?_⟩
  cases e : evs call es ρ M with
  | none => rw [e] at h; exact h
  | some q =>
    rw [e] at h
    cases q with
    | error x => exact h
    | ok q =>
      obtain ⟨ds, M1⟩ := q
      exact fun F' vs H' a b c d => f ds M1 F' vs H' a c b d (evs_len e) h
theorem tev_stepI {W : XK} {e : E} {k : D → Ms → Rs D} {F : Hp} {α : List Addr} {ρ : Rho} {M : Ms} {σ : L2.St} {H : Hp} {R' : It → Hp → Prop} {Q' : VK} (h : WpI G W F α H ((ev call e ρ M).bind k) R') (R : Rp G F α M H) (S : Sl G F α ρ σ)
    (f : ∀ d M1 F1 v H1, Same F F1 → Stp F F1 α α H H1 → Rp G F1 α M1 H1 → RV G F1 α d v → WpI G W F α H (k d M1) R' → Q' v H1) : tev G W call false e σ H Q' := by
  refine ⟨F, α, ρ, M, R, S, ?_⟩
  cases e : ev call e ρ M with
  | none => rw [e] at h; exact h
  | some q =>
    rw [e] at h
    cases q with
    | error x => exact h
    | ok q =>
      obtain ⟨ds, M1⟩ := q
      exact fun F' vs H' a b c d => f ds M1 F' vs H' a c b d h
section
variable {W : XK} {X : Cx} {s0 sc : Scope}
theorem pi_sq (C : Cok G T N call W X s0 sc) {e : E} {x tgx : Expr} (h : PE X x (tev G W call false e)) : PI X tgx x (tevI G W call e) := by
  refine PI.imp (pi_seq h) ?_
  rintro σ H R' ⟨F, α, ρ, M, R, S, h⟩
  refine ⟨F, α, ρ, M, R, S, ?_⟩
  cases eq1 : ev call e ρ M with
  | none => rw [eq1] at h; exact h
  | some q =>
    rw [eq1] at h
    cases q with
    | error x => exact h
    | ok q =>
      obtain ⟨d, M1⟩ := q
      obtain ⟨xs, hd, k⟩ := h
      intro F1 v H1 e1 R1 st1 r1
      unfold itemsOf at hd
      split at hd
      · cases hd
        cases r1 with
        | tup hf g => exact ⟨_, _, rfl, .inr ⟨by rw [C.kk]; exact .inl (.inl (R1.sub _ _ hf)), fun hl => k F1 _ H1 e1 R1 st1 (by rw [C.kk]; exact it_tup hf g) (by simpa [← DqAll.length g] using hl)⟩⟩
      · cases hd
        cases r1 with
        | lst hf g => exact ⟨_, _, rfl, .inl ⟨by rw [C.kk]; exact .inl (.inl (R1.sub _ _ hf)), fun hl => k F1 _ H1 e1 R1 st1 (by rw [C.kk]; exact it_list hf g) (by simpa [← DqAll.length g] using hl)⟩⟩
      · exact r1.elim
      · cases hd
theorem pi_en (C : Cok G T N call W X s0 sc) {s1 : Scope} {e : E} {x tgx : Expr} {tg : Tg} (hi : itTg (.enm e) tg = true) (ht : mtTg N s1 tg tgx = true) (h : mt T N true sc (.enm e) x = true) (pe : ∀ y, mt T N false sc e y = true → PE X y (tev G W call false e)) : PI X tgx x (tevI G W call (.enm e)) := by
  cases tg with
  | nm i => cases hi
  | tp ts =>
    unfold mtTg at ht
    split at ht
    · unfold mt at h
      split at h
      · rename_i n p l pos hv
        rw [vCall_eq hv]
        simp only [Bool.and_eq_true, decide_eq_true_eq] at h
        obtain ⟨⟨⟨⟨⟨_, rfl⟩, hg⟩, ho⟩, hpl⟩, he⟩ := h
        have st := starEach_plain [] X.env hpl
        refine PI.imp (pi_enum (C.gl hg) (C.blt _ keyN.2.2.2.1) (pa_cons (pe l he) pa_nil st) st) ?_
        rintro σ H R' ⟨F, α, ρ, M, R, S, h⟩
        rw [ev] at h
        refine tev_stepI (R' := R') h R S fun d1 M1 F1 v1 H1 e1 st1 R1 r1 h1 => ?_
        split at h1
        · rename_i xs
          split at h1
          · rename_i hl
            obtain ⟨ys, hd, k⟩ := h1
            cases hd
            cases r1 with
            | lst hf g =>
              rename_i a vs
              refine ⟨a, vs, rfl, .inl (.inl (R1.sub _ _ hf)), ?_⟩
              exact k F1 _ H1 e1 R1 st1 (by rw [C.kk]; exact it_enum hf g) (by rw [nums_length]; exact line_le hl)
          · exact h1.elim
        · exact h1.elim
      · cases h
    · cases ht
end
theorem own_isD {F H : Hp} {α : List Addr} {M : Ms} (R : Rp G F α M H) {d : D} {v : V} (r : RV G F α d v) (h : isDct M d = true) : ∃ a, v = .ref a ∧ IsD H a := by
  unfold isDct at h
  split at h
  · rename_i n
    obtain ⟨a, ha, rfl⟩ := r
    refine ⟨a, rfl, ?_⟩
    cases q : M[n]? with
    | none => rw [q] at h; cases h
    | some mo =>
      have z := R.ok n a mo ha q
      rw [q] at h
      cases mo with
      | dK kvs => obtain ⟨ws, e, _⟩ := z; exact .inl ⟨ws, .inl e⟩
      | dT kvs => obtain ⟨ws, e, _⟩ := z; exact .inr ⟨ws, .inl e⟩
      | zK kvs => obtain ⟨o, ws, e, _⟩ := z; exact .inl ⟨ws, .inr ⟨o, e⟩⟩
      | zT kvs => obtain ⟨o, ws, e, _⟩ := z; exact .inr ⟨ws, .inr ⟨o, e⟩⟩
      | _ => cases h
  · cases h
theorem WpE.flat' {W : XK} {F H : Hp} {α : List Addr} {M : Ms} {x : PyData} {v : V} {Q : VK} (h : WpE G W false F α H (Rs.ok (.d x) M) Q) (R : Rp G F α M H) (r : Dq F v x) : Q v H := h.done R r
theorem back_any {pos : Pos} (l : List (Bool × Sem Value)) : (backTo pos l).any (·.1) = l.any (·.1) := by
  unfold backTo
  rw [List.any_map]
  rfl
theorem mts_back {sc : Scope} {env : Env} {pos : Pos} {es : Es} {y : Expr} {ys : List Expr} (h : mts T N sc es (y :: ys) = true) : (backTo pos (starEach ys env)).any (·.1) = false := by
  have key : ∀ (ys : List Expr) (es : Es), mts T N sc es ys = true → (starEach ys env).any (·.1) = false := by
    intro ys
    induction ys with
    | nil => intro es _; rfl
    | cons y ys ih =>
      intro es h
      cases es with
      | nil => cases h
      | cons a b =>
        have h : (plainX y && mt T N false sc a y && mts T N sc b ys) = true := h
        simp only [Bool.and_eq_true] at h
        rw [starEach_plain ys env h.1.1, List.any_cons, ih b h.2]
        rfl
  cases es with
  | nil => cases h
  | cons a b =>
    have h : (plainX y && mt T N false sc a y && mts T N sc b ys) = true := h
    simp only [Bool.and_eq_true] at h
    rw [back_any]
    exact key ys b h.2

/-! ### the parts of an argument list -/
theorem WpA.adv {W : XK} {F F1 H H1 : Hp} {α : List Addr} {r : Rs (List D)} {Q : List V → Hp → Prop} (e : Same F F1) (s : Stp F F1 α α H H1) (h : WpA G W F α H r Q) : WpA G W F1 α H1 r Q := by
  unfold WpA at h ⊢
  cases r with
  | none => exact h
  | some q =>
    cases q with
    | error x => exact exP.adv e s h
    | ok q => exact fun F' v H' e' R s' => h F' v H' (e.trans e') R (s.trans s')
theorem tev_stepA {W : XK} {e : E} {k : D → Ms → Rs (List D)} {F : Hp} {α : List Addr} {ρ : Rho} {M : Ms} {σ : L2.St} {H : Hp} {Q : List V → Hp → Prop} {Q' : VK} (h : WpA G W F α H ((ev call e ρ M).bind k) Q) (R : Rp G F α M H) (S : Sl G F α ρ σ)
    (f : ∀ d M1 F1 v H1, Same F F1 → Stp F F1 α α H H1 → Rp G F1 α M1 H1 → Sl G F1 α ρ σ → RV G F1 α d v → WpA G W F1 α H1 (k d M1) Q → Q' v H1) : tev G W call false e σ H Q' := by
  refine ⟨F, α, ρ, M, R, S, ?_⟩
  cases eq : ev call e ρ M with
  | none => rw [eq] at h; exact h
  | some q =>
    rw [eq] at h
    cases q with
    | error x => exact h
    | ok q =>
      obtain ⟨d, M1⟩ := q
      exact fun F1 v H1 e1 R1 s1 rv => f d M1 F1 v H1 e1 s1 R1 (S.mono e1) rv (WpA.adv e1 s1 h)
theorem tevA_stepA {W : XK} {es : Es} {k : List D → Ms → Rs (List D)} {F : Hp} {α : List Addr} {ρ : Rho} {M : Ms} {σ : L2.St} {H : Hp} {Q Q' : List V → Hp → Prop} (h : WpA G W F α H ((evs call es ρ M).bind k) Q) (R : Rp G F α M H) (S : Sl G F α ρ σ)
    (f : ∀ d M1 F1 v H1, Same F F1 → Stp F F1 α α H H1 → Rp G F1 α M1 H1 → Sl G F1 α ρ σ → RVs G F1 α d v → WpA G W F1 α H1 (k d M1) Q → Q' v H1) : tevA G W call es σ H Q' := by
  refine ⟨F, α, ρ, M, R, S, ?_⟩
  cases eq : evs call es ρ M with
  | none => rw [eq] at h; exact h
  | some q =>
    rw [eq] at h
    cases q with
    | error x => exact h
    | ok q =>
      obtain ⟨d, M1⟩ := q
      exact fun F1 v H1 e1 R1 s1 rv => f d M1 F1 v H1 e1 s1 R1 (S.mono e1) rv (WpA.adv e1 s1 h)
theorem nil_read {W : XK} {σ : L2.St} {H : Hp} {Q : List V → Hp → Prop} (h : tevA G W call .nil σ H Q) : tNil σ H Q := by
  obtain ⟨F, α, ρ, M, R, S, h⟩ := h
  rw [evs] at h
  exact h F [] H (Same.refl _) R (Stp.refl _ _ _) .nil
theorem cons_read {W : XK} {a : E} {b : Es} {σ : L2.St} {H : Hp} {Q : List V → Hp → Prop} (h : tevA G W call (.cons a b) σ H Q) : tCons (tev G W call false a) (tevA G W call b) σ H Q := by
  obtain ⟨F, α, ρ, M, R, S, h⟩ := h
  rw [evs] at h
  refine tev_stepA h R S fun d1 M1 F1 v1 H1 e1 _ R1 S1 r1 h1 => tevA_stepA h1 R1 S1 fun d2 M2 F2 v2 H2 e2 _ R2 S2 r2 h2 => ?_
  exact h2 F2 _ H2 (Same.refl _) R2 (Stp.refl _ _ _) (.cons (r1.mono e2) r2)
section
variable {W : XK} {X : Cx} {s0 sc : Scope}
theorem rv1 {F : Hp} {α : List Addr} {a : Int} {vs : List V} (h : RVs G F α [.d (.int a)] vs) : vs = [.int a] := by
  cases h with
  | cons r rr => cases rr; rw [rv_int r]
theorem rv2 {F : Hp} {α : List Addr} {a b : Int} {vs : List V} (h : RVs G F α [.d (.int a), .d (.int b)] vs) : vs = [.int a, .int b] := by
  cases h with
  | cons r rr => rw [rv_int r, rv1 rr]
theorem rv3 {F : Hp} {α : List Addr} {a b c : Int} {vs : List V} (h : RVs G F α [.d (.int a), .d (.int b), .d (.int c)] vs) : vs = [.int a, .int b, .int c] := by
  cases h with
  | cons r rr => rw [rv_int r, rv2 rr]
theorem pi_rg (C : Cok G T N call W X s0 sc) {es : Es} {x tgx : Expr} (h : mt T N true sc (.rng es) x = true) (pa : ∀ ys, mts T N sc es ys = true → PA X ys (tevA G W call es)) : PI X tgx x (tevI G W call (.rng es)) := by
  unfold mt at h
  split at h
  · rename_i n p xs pos hv
    rw [vCall_eq hv]
    simp only [Bool.and_eq_true, decide_eq_true_eq] at h
    obtain ⟨⟨⟨⟨⟨⟨_, rfl⟩, hg⟩, ho⟩, h3⟩, h1⟩, hs⟩ := h
    have hl := mts_len hs
    have hb := C.blt _ keyN.2.1
    have fin : ∀ {σ : L2.St} {H : Hp} {R' : It → Hp → Prop} {Q' : List V → Hp → Prop}, tevI G W call (.rng es) σ H R' → (∀ ds ys M1 F1 F H vs α H1, Same F F1 → Stp F F1 α α H H1 → Rp G F1 α M1 H1 → RVs G F1 α ds vs → ds.length = lenE es → rangeOf ds = some ys →
        (∀ F' J H', Same F F' → Rp G F' α M1 H' → Stp F F' α α H H' → ItOk G F' α J ys (Same F') → ys.length ≤ sizeLine → R' J H') → Q' vs H1) → tevA G W call es σ H Q' := by
      rintro σ H R' Q' ⟨F, α, ρ, M, R, S, h⟩ f
      rw [ev] at h
      refine tevA_stepI (R' := R') h R S fun ds M1 F1 vs H1 e1 st1 R1 rs hl1 h1 => ?_
      cases e : rangeOf ds with
      | none => rw [e] at h1; exact h1.elim
      | some ys =>
        rw [e] at h1
        obtain ⟨zs, hz, k⟩ := h1
        cases hz
        exact f ds _ M1 F1 F H vs α H1 e1 st1 R1 rs hl1 e k
    match xs, hs, h3, h1, hl with
    | [a], hs, _, _, hl =>
      refine PI.imp (pi_range1 (C.gl hg) hb (pa _ hs) (starEach_plain [] X.env (mts_cons hs).1)) fun σ H R' h => ?_
      refine fin h fun ds ys M1 F1 F H vs α H1 e1 st1 R1 rs hl1 e k => ?_
      rw [← hl] at hl1
      unfold rangeOf at e
      split at e
      · obtain ⟨⟨b1, b2, b3, b4, b5, b6⟩, hx⟩ := rangeD_eq e
        rcases hx with ⟨_, rfl⟩ | ⟨hc, _⟩
        · rw [rv1 rs]
          have := k F1 (Itr 0 (_ - (0 : Int)).toNat) H1 e1 R1 st1 (it_range rfl) (by simpa using line_le b5)
          exact ⟨_, rfl, b3, b4, by simpa using this⟩
        · exact absurd hc (by decide)
      · exact absurd hl1 (by simp)
      · exact absurd hl1 (by simp)
      · cases e
    | [a, b], hs, _, _, hl =>
      obtain ⟨p1, ea, eb, rfl, _, hs2⟩ := mts_cons hs
      have q2 : starEach [b] X.env = [(false, eval b X.env)] := starEach_plain [] X.env (mts_cons hs2).1
      have q1 : starEach [a, b] X.env = [(false, eval a X.env), (false, eval b X.env)] := (starEach_plain [b] X.env p1).trans (congrArg _ q2)
      refine PI.imp (pi_range2 (C.gl hg) hb (pa _ hs) q1 q2) fun σ H R' h => ?_
      refine fin h fun ds ys M1 F1 F H vs α H1 e1 st1 R1 rs hl1 e k => ?_
      rw [← hl] at hl1
      unfold rangeOf at e
      split at e
      · exact absurd hl1 (by simp)
      · obtain ⟨⟨b1, b2, b3, b4, b5, b6⟩, hx⟩ := rangeD_eq e
        rcases hx with ⟨_, rfl⟩ | ⟨hc, _⟩
        · rw [rv2 rs]
          exact ⟨_, _, rfl, ⟨b1, b2, b3, b4⟩, k F1 _ H1 e1 R1 st1 (it_range rfl) (by simpa using line_le b5)⟩
        · exact absurd hc (by decide)
      · exact absurd hl1 (by simp)
      · cases e
    | [a, b, c], hs, _, _, hl =>
      obtain ⟨p1, ea, eb, rfl, _, hs2⟩ := mts_cons hs
      refine PI.imp (pi_range3 (C.gl hg) hb (pa _ hs) (starEach_plain _ X.env p1) (mts_back hs)) fun σ H R' h => ?_
      refine fin h fun ds ys M1 F1 F H vs α H1 e1 st1 R1 rs hl1 e k => ?_
      rw [← hl] at hl1
      unfold rangeOf at e
      split at e
      · exact absurd hl1 (by simp)
      · exact absurd hl1 (by simp)
      · obtain ⟨⟨b1, b2, b3, b4, b5, b6⟩, hx⟩ := rangeD_eq e
        rcases hx with ⟨hc, hx⟩ | ⟨hc, hx⟩
        · subst hc
          rw [rv3 rs]
          refine ⟨_, _, _, _, rfl, ⟨by decide, by decide, small_one b1 b2 b3 b4, rangeSize_nat _ _⟩, k F1 _ H1 e1 R1 st1 (it_rangeC (by simpa using hx)) (by rw [hx]; simpa using line_le b5)⟩
        · subst hc
          rw [rv3 rs]
          refine ⟨_, _, _, _, rfl, RgC.neg b1 b2 b3 b4, k F1 _ H1 e1 R1 st1 (it_rangeC (by simpa [Int.sub_eq_add_neg] using hx)) (by rw [hx]; simpa using line_le b6)⟩
      · cases e
  · cases h
theorem seqD_cases {M : Ms} {x : PyData} {xs : List PyData} (h : seqD M (.d x) = some xs) : (x = .tuple xs ∧ isTup x = true) ∨ (x = .list xs ∧ isTup x = false) := by
  have h : (match x with
    | .tuple xs => some xs
    | .list xs => some xs
    | _ => none) = some xs := by cases x <;> exact h
  cases x <;> cases h
  · exact .inr ⟨rfl, rfl⟩
  · exact .inl ⟨rfl, rfl⟩
theorem pi_zp (C : Cok G T N call W X s0 sc) {s1 : Scope} {es : Es} {x tgx : Expr} {tg : Tg} (hi : itTg (.zip es) tg = true) (ht : mtTg N s1 tg tgx = true) (h : mt T N true sc (.zip es) x = true) (pa : ∀ ys, mts T N sc es ys = true → PA X ys (tevA G W call es)) : PI X tgx x (tevI G W call (.zip es)) := by
  cases tg with
  | nm i => cases hi
  | tp ts =>
    unfold mtTg at ht
    split at ht
    · unfold mt at h
      split at h
      · rename_i n p xs pos hv
        rw [vCall_eq hv]
        simp only [Bool.and_eq_true, decide_eq_true_eq] at h
        obtain ⟨⟨⟨⟨⟨_, rfl⟩, hg⟩, ho⟩, h2⟩, hs⟩ := h
        match xs, hs, h2 with
        | [a, b], hs, _ =>
          refine PI.imp (RZ.pi_zipA (C.gl hg) (C.blt _ keyN.2.2.1) (pa _ hs) (starEach_plain _ X.env (mts_cons hs).1) (mts_back hs)) ?_
          rintro σ H R' ⟨F, α, ρ, M, R, S, h⟩
          rw [ev] at h
          refine tevA_stepI (R' := R') h R S fun ds M1 F1 vs H1 e1 st1 R1 rs hl1 h1 => ?_
          split at h1
          · rename_i x y
            split at h1
            · exact h1.elim
            · rename_i htt
              split at h1
              · rename_i us ws hx hy
                split at h1
                · rename_i hl
                  obtain ⟨ys, hd, k⟩ := h1
                  cases hd
                  rcases seqD_cases hx with ⟨rfl, tx⟩ | ⟨rfl, tx⟩ <;> rcases seqD_cases hy with ⟨rfl, ty⟩ | ⟨rfl, ty⟩
                  · cases rs with
                    | cons r1 rr => cases rr with
                      | cons r2 rr =>
                        cases rr
                        cases r1 with
                        | tup f1 g1 => cases r2 with
                          | tup f2 g2 =>
                            refine ⟨_, _, _, _, rfl, .inr ⟨.inl (.inl (R1.sub _ _ f1)), .inl (.inl (R1.sub _ _ f2)), ?_⟩⟩
                            rw [C.kk]
                            refine k F1 _ H1 e1 R1 st1 (it_pair walk_zipT rfl (fun H s => ⟨.inl (.inl (s _ _ f1)), .inl (.inl (s _ _ f2))⟩) g1 g2) (line_le hl)
                  · rw [tx, ty] at htt; exact absurd rfl htt
                  · rw [tx, ty] at htt; exact absurd rfl htt
                  · cases rs with
                    | cons r1 rr => cases rr with
                      | cons r2 rr =>
                        cases rr
                        cases r1 with
                        | lst f1 g1 => cases r2 with
                          | lst f2 g2 =>
                            refine ⟨_, _, _, _, rfl, .inl ⟨.inl (.inl (R1.sub _ _ f1)), .inl (.inl (R1.sub _ _ f2)), ?_⟩⟩
                            rw [C.kk]
                            refine k F1 _ H1 e1 R1 st1 (it_pair (walk_zip rfl) rfl (fun H s => ⟨.inl (.inl (s _ _ f1)), .inl (.inl (s _ _ f2))⟩) g1 g2) (line_le hl)
                · exact h1.elim
              · exact h1.elim
          · exact h1.elim
      · cases h
    · cases ht
/-! ### comprehensions -/
theorem own_snd (N : List Str) (vs : List Nat) : (ownOf N vs).map (·.2) = vs := by
  unfold ownOf
  rw [List.map_map]
  exact List.map_id' vs
theorem all_in {l vs : List Nat} (h : (l.all fun i => vs.contains i) = true) : ∀ i ∈ l, i ∈ vs := fun i hi => by
  have := List.all_eq_true.mp h i hi
  simpa using this
theorem pts_of {X' : Cx} {s' sc' : Scope} (C' : Cok G T N call E0 X' s' sc') {cond : E} {ifs : List Expr} (h : (match ifs with
      | [] => isNop cond
      | [c] => !isNop cond && (tstX c || isTst cond) && mt T N false sc' cond c
      | _ => false) = true) (pt : ∀ (y : Expr), (tstX y || isTst cond) = true → mt T N false sc' cond y = true → PT X' y (tevT G E0 call cond)) : PTs X' ifs (ttOf G call cond) := by
  unfold ttOf
  split at h
  · rw [if_pos h]
    exact pts_nil
  · simp only [Bool.and_eq_true, Bool.not_eq_true'] at h
    rw [if_neg (by simp [h.1.1])]
    exact pts_one (pt _ h.1.2 h.2)
  · cases h
theorem lc_fin (C : Cok G T N call W X s0 sc) {elt cond it : E} {tg : Tg} {vs : List Nat} {x : Expr} {m w : Bool} (h : mt T N w sc (.lc elt tg it cond vs) x = true)
    (pi : ∀ (s1 : Scope) (tgx i : Expr), itTg it tg = true → plainX i = true → mtTg N s1 tg tgx = true → mt T N (isIt it) sc it i = true → PI X tgx i (tevI G W call it))
    (pe : ∀ {X' : Cx} {s1 sc' : Scope} (C' : Cok G T N call E0 X' s1 sc') (y : Expr), mt T N false sc' elt y = true → PE X' y (tev G E0 call false elt))
    (pt : ∀ {X' : Cx} {s1 sc' : Scope} (C' : Cok G T N call E0 X' s1 sc') (y : Expr), (tstX y || isTst cond) = true → mt T N false sc' cond y = true → PT X' y (tevT G E0 call cond)) :
    PE X x (tev G W call m (.lc elt tg it cond vs)) := by
  unfold mt at h
  split at h
  · rename_i e t i ifs scope pos
    simp only [Bool.and_eq_true] at h
    obtain ⟨⟨⟨⟨⟨⟨⟨h1, h2⟩, h3⟩, h4⟩, h5⟩, h6⟩, h7⟩, h8⟩ := h
    refine PE.imp (pe_lc (own := ownOf N vs) C.calm C.nd (pi scope t i h1 h3 h6 h5) (blkOk_by (by rw [C.hN, C.hsc]; exact h4)) (g := gTg G tg) (tt := ttOf G call cond) (te := tev G E0 call false elt)
      (fun s H c cl fp => snd_tg (C.blk h4 s H c cl fp) tg t h6) (fun s H c cl fp => pts_of (C.blk h4 s H c cl fp) h8 (pt (C.blk h4 s H c cl fp))) (fun s H c cl fp => pe (C.blk h4 s H c cl fp) e h7) (fold_of _ h3)) ?_
    rintro σ H Q h
    rw [own_snd]
    exact lc_read (all_in h2) h
  · cases h
theorem lc2_fin (C : Cok G T N call W X s0 sc) {elt cond it cond1 it1 : E} {tg tg1 : Tg} {vs vs1 : List Nat} {x : Expr} {m w : Bool} (h : mt T N w sc (.lc2 elt tg it cond vs tg1 it1 cond1 vs1) x = true)
    (pi : ∀ (s1 : Scope) (tgx i : Expr), itTg it tg = true → mtTg N s1 tg tgx = true → mt T N (isIt it) sc it i = true → PI X tgx i (tevI G W call it))
    (pi1 : ∀ {X' : Cx} {s1 sc' : Scope} (C' : Cok G T N call E0 X' s1 sc') (s2 : Scope) (tgx i : Expr), itTg it1 tg1 = true → mtTg N s2 tg1 tgx = true → mt T N (isIt it1) sc' it1 i = true → PI X' tgx i (tevI G E0 call it1))
    (pe : ∀ {X' : Cx} {s1 sc' : Scope} (C' : Cok G T N call E0 X' s1 sc') (y : Expr), mt T N false sc' elt y = true → PE X' y (tev G E0 call false elt))
    (pt : ∀ {X' : Cx} {s1 sc' : Scope} (C' : Cok G T N call E0 X' s1 sc') (y : Expr), (tstX y || isTst cond) = true → mt T N false sc' cond y = true → PT X' y (tevT G E0 call cond))
    (pt1 : ∀ {X' : Cx} {s1 sc' : Scope} (C' : Cok G T N call E0 X' s1 sc') (y : Expr), (tstX y || isTst cond1) = true → mt T N false sc' cond1 y = true → PT X' y (tevT G E0 call cond1)) :
    PE X x (tev G W call m (.lc2 elt tg it cond vs tg1 it1 cond1 vs1)) := by
  unfold mt at h
  split at h
  · rename_i e t i ifs t1 i1 ifs1 scope pos
    simp only [Bool.and_eq_true] at h
    obtain ⟨⟨⟨⟨⟨⟨⟨⟨⟨⟨⟨⟨⟨⟨a1, a2⟩, a3⟩, a4⟩, a5⟩, a6⟩, a7⟩, a8⟩, b1⟩, b2⟩, b3⟩, b4⟩, b5⟩, b6⟩, b7⟩ := h
    refine PE.imp (pe_lc2 (own := ownOf N vs) (vs1 := vs1) C.calm C.nd (pi scope t i a1 b2 b1) (blkOk_by (by rw [C.hN, C.hsc]; exact a8)) (by rw [own_snd]; exact all_in a5) (g := gTg G tg) (g1 := gTg G tg1) (tt := ttOf G call cond) (tt1 := ttOf G call cond1) (te := tev G E0 call false elt)
      (fun s H c cl fp => snd_tg (C.blk a8 s H c cl fp) tg t b2) (fun s H c cl fp => pts_of (C.blk a8 s H c cl fp) b6 (pt (C.blk a8 s H c cl fp)))
      (fun s H c cl fp => pi1 (C.blk a8 s H c cl fp) scope t1 i1 a2 b4 b3) (fun s H c cl fp => snd_tg (C.blk a8 s H c cl fp) tg1 t1 b4) (fun s H c cl fp => pts_of (C.blk a8 s H c cl fp) b7 (pt1 (C.blk a8 s H c cl fp)))
      (fun s H c cl fp => pe (C.blk a8 s H c cl fp) e b5) (fold_of _ a6) (fun env => fold_of env a7)) ?_
    rintro σ H Q h
    rw [own_snd]
    exact lc2_read (all_in a3) (all_in a4) h
  · cases h
theorem lcO_fin (C : Cok G T N call W X s0 sc) {elt cond : E} {j : Nat} {tg : Tg} {vs : List Nat} {x : Expr} {m w : Bool} (h : mt T N w sc (.lcO elt tg j cond vs) x = true)
    (pe : ∀ {X' : Cx} {s1 sc' : Scope} (C' : Cok G T N call E0 X' s1 sc') (y : Expr), mt T N false sc' elt y = true → PE X' y (tev G E0 call false elt))
    (pt : ∀ {X' : Cx} {s1 sc' : Scope} (C' : Cok G T N call E0 X' s1 sc') (y : Expr), (tstX y || isTst cond) = true → mt T N false sc' cond y = true → PT X' y (tevT G E0 call cond)) :
    PE X x (tev G W call m (.lcO elt tg j cond vs)) := by
  unfold mt at h
  split at h
  · rename_i e t i ifs scope pos
    simp only [Bool.and_eq_true] at h
    obtain ⟨⟨⟨⟨⟨⟨h2, h3⟩, h4⟩, h5⟩, h6⟩, h7⟩, h8⟩ := h
    split at h5
    · rename_i n p hn
      have ei := vName_eq hn
      subst ei
      obtain ⟨q1, q2, q3, q4⟩ := C.slot h5
      refine PE.imp (pe_lock (pe_lc (own := ownOf N vs) C.calm C.nd (pi_own q1 q2 q3 q4) (blkOk_by (by rw [C.hN, C.hsc]; exact h4)) (g := gTg G tg) (tt := ttOf G call cond) (te := tev G E0 call false elt)
        (fun s H c cl fp => snd_tg (C.blk h4 s H c cl fp) tg t h6) (fun s H c cl fp => pts_of (C.blk h4 s H c cl fp) h8 (pt (C.blk h4 s H c cl fp))) (fun s H c cl fp => pe (C.blk h4 s H c cl fp) e h7) (fold_of _ h3))) ?_
      rintro σ H Q h
      rw [own_snd, C.kk]
      exact lcO_read (all_in h2) h
    · cases h5
  · cases h
/-! ### list(range(..)), tuple(range(..)) -/
theorem prg_A1 {a : Expr} {ta : TA} {p pos : Pos} (hg : Gl X "range") (hm : X.mg "range" = none) (ha : PA X [a] ta) (hs : starEach [a] X.env = (false, eval a X.env) :: starEach [] X.env) :
    PRg X (.Call (.Name "range" p) [a] [] pos) (fun σ H Q => ta σ H fun vs H1 => ∃ j : Int, vs = [.int j] ∧ Q 0 j H1) := by
  intro pins s σ H Q I h
  refine Call_ (ld_blt I hg hm boot_range (PyProof.Rows.callWith_type1 (thn (ha.run pos pins s σ H _ I h) fun us s1 h1 => ?_) hs rfl))
  obtain ⟨vs, H1, I1, r1, j, e, q⟩ := h1
  subst e
  cases r1 with
  | cons r rr => cases rr; obtain ⟨t, rfl⟩ := r; exact call_range_1 ⟨_, 0, j, _, _, _, H1, rfl, IsRange.new _ _ _ _ _ _ _, I1.kept fun b u e => Heap.get?_push_of_some _ e, q⟩
theorem prg_A2 {a b : Expr} {ta : TA} {p pos : Pos} (hg : Gl X "range") (hm : X.mg "range" = none) (ha : PA X [a, b] ta) (hs : starEach [a, b] X.env = (false, eval a X.env) :: starEach [b] X.env) (hp : (backTo pos (starEach [b] X.env)).any (·.1) = false) :
    PRg X (.Call (.Name "range" p) [a, b] [] pos) (fun σ H Q => ta σ H fun vs H1 => ∃ i j : Int, vs = [.int i, .int j] ∧ Q i j H1) := by
  intro pins s σ H Q I h
  refine Call_ (ld_blt I hg hm boot_range (PyProof.Rows.callWith_type1 (thn (ha.run pos pins s σ H _ I h) fun us s1 h1 => ?_) hs hp))
  obtain ⟨vs, H1, I1, r1, i, j, e, q⟩ := h1
  subst e
  cases r1 with
  | cons r rr => cases rr with
    | cons r' rr => cases rr; obtain ⟨t, rfl⟩ := r; obtain ⟨t', rfl⟩ := r'; exact call_range_2 ⟨_, i, j, _, _, _, H1, rfl, IsRange.new _ _ _ _ _ _ _, I1.kept fun b u e => Heap.get?_push_of_some _ e, q⟩
theorem lrg_fin (C : Cok G T N call W X s0 sc) {t : Bool} {es : Es} {x : Expr} {m w : Bool} (h : mt T N w sc (.lrg t es) x = true) (pa : ∀ ys, mts T N sc es ys = true → PA X ys (tevA G W call es)) : PE X x (tev G W call m (.lrg t es)) := by
  unfold mt at h
  split at h
  · rename_i n p l pos hv
    rw [vCall_eq hv]
    simp only [Bool.and_eq_true, decide_eq_true_eq] at h
    obtain ⟨⟨⟨hn, hg⟩, ho⟩, h⟩ := h
    split at h
    · rename_i n2 p2 xs pos2 hv2
      simp only [Bool.and_eq_true, decide_eq_true_eq] at h
      obtain ⟨⟨⟨⟨⟨⟨hpl, rfl⟩, hg2⟩, ho2⟩, h3⟩, h1⟩, hs⟩ := h
      have st := starEach_plain [] X.env hpl
      have hl := mts_len hs
      have hb := C.blt _ keyN.2.1
      have main : ∃ te, PRg X l te ∧ ∀ σ H (Q : VK), tev G W call m (.lrg t es) σ H Q → te σ H fun a b H1 => RgOk a b ∧ ∀ q, H1 q = none → Q (.ref q) (upd H1 q (if t = true then .tup (rgV a b) else .lst (rgV a b))) := by
        have fin : ∀ {σ : L2.St} {H : Hp} {Q : VK} {Q' : List V → Hp → Prop}, tev G W call m (.lrg t es) σ H Q → (∀ ds ys F1 vs α H1, RVs G F1 α ds vs → ds.length = lenE es → rangeOf ds = some ys →
            (∀ a b, rangeD a b 1 = some ys → RgOk a b ∧ ∀ q, H1 q = none → Q (.ref q) (upd H1 q (if t = true then .tup (rgV a b) else .lst (rgV a b)))) → Q' vs H1) → tevA G W call es σ H Q' := by
          rintro σ H Q Q' ⟨F, α, ρ, M, R, S, h⟩ f
          rw [ev] at h
          have h' := h
          refine ⟨F, α, ρ, M, R, S, ?_⟩
          have hb := h.bindA
          cases eq : evs call es ρ M with
          | none => rw [eq] at hb; exact hb
          | some q =>
            rw [eq] at hb
            cases q with
            | error x => exact hb
            | ok q =>
              obtain ⟨ds, M1⟩ := q
              intro F1 vs H1 e1 R1 st1 rs
              have h1 : WpE G W m F α H (match rangeOf ds with
                | some ys => match datas ys with
                  | some zs => if line zs.length = true then Rs.ok (.d (if t then .tuple zs else .list zs)) M1 else none
                  | none => none
                | none => none) Q := by rw [eq] at h'; exact h'
              have h1 := WpE.adv e1 st1 R1 h1
              cases er : rangeOf ds with
              | none => rw [er] at h1; exact h1.elim
              | some ys =>
                rw [er] at h1
                refine f ds ys F1 vs α H1 rs (evs_len eq) er fun a b hr => ?_
                cases ed : datas ys with
                | none => simp only [ed] at h1; exact h1.elim
                | some zs =>
                  simp only [ed] at h1
                  split at h1
                  · obtain ⟨⟨b1, b2, b3, b4, b5, b6⟩, hx⟩ := rangeD_eq hr
                    rcases hx with ⟨_, hx⟩ | ⟨hc, _⟩
                    · subst hx
                      obtain ⟨g, hg⟩ := rgV_dq (F := F1) ed
                      refine ⟨⟨b1, b2, b3, b4, by have := line_le b5; rw [sizeLine_eq] at this; omega⟩, fun q hq => ?_⟩
                      cases t with
                      | true => exact h1.tupM R1 hq g
                      | false => exact h1.list R1 hq g
                    · exact absurd hc (by decide)
                  · exact h1.elim
        rw [vCall_eq hv2]
        match xs, hs, h3, h1, hl with
        | [a], hs, _, _, hl =>
          refine ⟨_, prg_A1 (C.gl hg2) hb (pa _ hs) (starEach_plain [] X.env (mts_cons hs).1), fun σ H Q h => ?_⟩
          refine fin h fun ds ys F1 vs α H1 rs hl1 e k => ?_
          rw [← hl] at hl1
          unfold rangeOf at e
          split at e
          · rw [rv1 rs]
            exact ⟨_, rfl, k _ _ e⟩
          · exact absurd hl1 (by simp)
          · exact absurd hl1 (by simp)
          · cases e
        | [a, b], hs, _, _, hl =>
          refine ⟨_, prg_A2 (C.gl hg2) hb (pa _ hs) (starEach_plain _ X.env (mts_cons hs).1) (mts_back hs), fun σ H Q h => ?_⟩
          refine fin h fun ds ys F1 vs α H1 rs hl1 e k => ?_
          rw [← hl] at hl1
          unfold rangeOf at e
          split at e
          · exact absurd hl1 (by simp)
          · rw [rv2 rs]
            exact ⟨_, _, rfl, k _ _ e⟩
          · exact absurd hl1 (by simp)
          · cases e
      obtain ⟨te, pr, rd⟩ := main
      cases t with
      | true =>
        have hn : n = "tuple" := hn
        subst hn
        exact PE.imp (pe_tupRg C.calm (C.gl hg) (C.blt _ keyN.2.2.2.2.2) pr st) fun σ H Q h => rd σ H Q h
      | false =>
        have hn : n = "list" := hn
        subst hn
        exact PE.imp (pe_listRg C.calm (C.gl hg) (C.blt _ keyN.2.2.2.2.1) pr st) fun σ H Q h => rd σ H Q h
    · cases h
  · cases h
end
end
end Ob

set_option Elab.async false
set_option linter.all false
set_option maxRecDepth 100000
set_option maxHeartbeats 8000000
/-! sorted(set(xs)), as an expression -/
namespace Ob
open PySem PySem.Spec PyProof.Rows L2
section
variable {G : Gx} {T : Tab} {N : List Str} {call : Nat → List D → Ms → Rs D}
variable {W : XK} {X : Cx} {s0 sc : Scope}
theorem setN : ("set" : Str) ∈ bltNames ∧ ("sorted" : Str) ∈ bltNames := by decide +kernel
theorem sst_fin (C : Cok G T N call W X s0 sc) {e : E} {x : Expr} {m w : Bool} (h : mt T N w sc (.sst e) x = true) (pe : ∀ y, mt T N false sc e y = true → PE X y (tev G W call false e)) : PE X x (tev G W call m (.sst e)) := by
  unfold mt at h
  split at h
  · rename_i n p l pos hv
    rw [vCall_eq hv]
    simp only [Bool.and_eq_true, decide_eq_true_eq] at h
    obtain ⟨⟨⟨rfl, hg⟩, ho⟩, h⟩ := h
    split at h
    · rename_i n2 p2 a pos2 hv2
      simp only [Bool.and_eq_true, decide_eq_true_eq] at h
      obtain ⟨⟨⟨⟨⟨hpl, rfl⟩, hg2⟩, ho2⟩, hpa⟩, hs⟩ := h
      have st := starEach_plain [] X.env hpl
      have sa := starEach_plain [] X.env hpa
      have pin := pe_callTy (T := "set") (p := p2) (pos := pos2) (cr_setL C.calm) (C.gl hg2) (C.blt _ setN.1) (by decide +kernel) (pa_cons (pe a hs) pa_nil sa) (okN_n ho2) (okN_d ho2) sa
      rw [← vCall_eq hv2] at pin
      have pout := pe_callB (id := "sorted") (p := p) (pos := pos) (cr_sortedSet C.calm) (C.gl hg) (C.blt _ setN.2) (by decide +kernel) (pa_cons pin pa_nil st) (okN_n ho) (okN_d ho) st
      refine PE.imp pout fun σ H Q h => ?_
      obtain ⟨F, α, ρ, M, R, S, h⟩ := h
      rw [ev] at h
      show tev G W call false e σ H (fun v H1 => rSetOfL X.K X.w [v] H1 (fun u H2 => rSortedSet X.w [u] H2 Q))
      refine tev_step h R S fun d1 M1 F1 v1 H1 e1 _ R1 S1 r1 h1 => ?_
      split at h1
      · rename_i xs
        split at h1
        · rename_i ks hk
          split at h1
          · rename_i hlt
            obtain ⟨a1, vs, rfl, hl1, g⟩ := R1.viewL r1 (show view M1 (.d (.list xs)) = some (.list xs) from rfl)
            refine ⟨a1, ks, rfl, ?_, hlt, fun a2 c ha hc => ?_⟩
            · rw [← ints_vs g hk]
              exact .inl hl1
            · refine ⟨a2, _, c, rfl, upd_same, by omega, fun ns p hup hmem hn hp => ?_⟩
              have e2 : ns = once ks := up_ext hup (up_once ks) fun k => by rw [hmem k, decide_eq_true_eq, mem_once]
              subst e2
              exact (WpE.adv (fun b u e => e) (Stp.updH ha) (R1.newH ha) h1).list (R1.newH ha) hp (dqAll_ints _)
          · exact h1.elim
        · exact h1.elim
      · exact h1.elim
    · cases h
  · cases h
theorem type_lix : typeOf (.builtin "list.index") = pure (.type "method_descriptor") := by show builtinType _ = _; rw [builtinType_eq_fast]; kernel_rfl
theorem lix_fin (C : Cok G T N call W X s0 sc) {i : Nat} {k : E} {x : Expr} {w : Bool} (h : mt T N w sc (.lix i k) x = true) (pe : ∀ y, mt T N false sc k y = true → PE X y (tev G W call false k)) : PE X x (tev G W call false (.lix i k)) := by
  unfold mt at h
  split at h
  · rename_i n p mm q l pos hv
    rw [vMeth_eq hv]
    simp only [Bool.and_eq_true, decide_eq_true_eq] at h
    obtain ⟨⟨⟨⟨hs, rfl⟩, hq⟩, hpl0⟩, hk⟩ := h
    obtain ⟨h1, h2, h3, h4⟩ := C.slot hs
    have hst : starEach [l] X.env = [(false, eval l X.env)] := starEach_plain [] _ hpl0
    have hu : X.A.units + 65 < cLine := by have := C.un; omega
    refine PE.imp (pe_bm PySem.F.plainAttrs_list PySem.F.slot_list_index type_lix (mt_indexD hu) (pe_var h1 h2 h3 h4) (pa_cons (pe l hk) pa_nil hst) rfl (by rw [hst]; rfl) hq hst rfl) ?_
    rintro σ H Q ⟨F, α, ρ, M, R, S, h⟩
    rw [ev] at h
    split at h
    · rename_i ds eo
      obtain ⟨v, hsv, ro⟩ := S.getD eo
      obtain ⟨a, vs, rfl, hl1, g⟩ := R.viewL ro (show view M (.d (.list ds)) = some (.list ds) from rfl)
      refine ⟨_, hsv, .inl ⟨rfl, vs, .inl hl1⟩, tev_step h R S fun d1 M1 F1 v1 H1 e1 _ R1 S1 r1 h1 => ?_⟩
      split at h1
      · rename_i d
        split at h1
        · rename_i hsh
          split at h1
          · rename_i j hj
            simp only [Bool.and_eq_true] at hsh
            obtain ⟨hjl, hj1, hj2⟩ := List.findIdx?_eq_some_iff_getElem.mp hj
            refine ⟨a, v1, d, ds, j, ds[j], rfl, rfl, by rw [C.kk]; exact R1.viewDp (ro.mono e1) (show view M1 (.d (.list ds)) = some (.list ds) from rfl), by rw [C.kk]; exact R1.viewDp r1 (show view M1 (.d d) = some d from rfl), hsh.1, hsh.2, List.getElem?_eq_getElem hjl, hj1, fun m z' hm hz => ?_, h1.flat (fun _ z => by cases z) R1 (.int _)⟩
            obtain ⟨hml, rfl⟩ := List.getElem?_eq_some_iff.mp hz
            simpa using hj2 m hm
          · exact h1.elim
        · exact h1.elim
      · exact h1.elim
    · exact h.elim
  · cases h
end
end Ob

set_option Elab.async false
set_option linter.all false
set_option maxRecDepth 100000
set_option maxHeartbeats 8000000
namespace Ob
open PySem PySem.Spec PyProof.Rows L2
section
variable {G : Gx} {T : Tab} {N : List Str} {call : Nat → List D → Ms → Rs D}

/-! ### tests -/
section
variable {W : XK} {X : Cx} {s0 sc : Scope}
theorem tst_v {e : E} {x : Expr} (pe : PE X x (tev G W call false e)) (hx : tstX x = true) : PT X x (tevT G W call e) := pt_val pe (tst_plain X.env hx)
theorem conj_read {a b : E} {σ : L2.St} {H : Hp} {Q : Bool → Hp → Prop} (h : tevT G W call (.conj a b) σ H Q) : tAnd (tevT G W call a) (tevT G W call b) σ H Q := by
  obtain ⟨F, α, ρ, M, R, S, h⟩ := h
  rw [ev] at h
  refine tev_step h R S fun d1 M1 F1 v1 H1 e1 _ R1 S1 r1 h1 => ?_
  split at h1
  · exact ⟨true, rv_bool r1, by show (if _ = _ then _ else _); rw [if_pos rfl]; exact ⟨F1, α, ρ, M1, R1, S1, h1⟩⟩
  · obtain ⟨c, ec, q⟩ := h1.flat (fun _ z => by cases z) R1 (.bl _)
    cases ec
    exact ⟨false, rv_bool r1, by show (if _ = _ then _ else _); rw [if_neg (by decide)]; exact q⟩
  · exact h1.elim
theorem disj_read {a b : E} {σ : L2.St} {H : Hp} {Q : Bool → Hp → Prop} (h : tevT G W call (.disj a b) σ H Q) : tOr (tevT G W call a) (tevT G W call b) σ H Q := by
  obtain ⟨F, α, ρ, M, R, S, h⟩ := h
  rw [ev] at h
  refine tev_step h R S fun d1 M1 F1 v1 H1 e1 _ R1 S1 r1 h1 => ?_
  split at h1
  · obtain ⟨c, ec, q⟩ := h1.flat (fun _ z => by cases z) R1 (.bl _)
    cases ec
    exact ⟨true, rv_bool r1, by show (if _ = _ then _ else _); rw [if_pos rfl]; exact q⟩
  · exact ⟨false, rv_bool r1, by show (if _ = _ then _ else _); rw [if_neg (by decide)]; exact ⟨F1, α, ρ, M1, R1, S1, h1⟩⟩
  · exact h1.elim
theorem conj_w {a b : E} {x : Expr} (h : mt T N false sc (.conj a b) x = true) (pa : ∀ y, (tstX y || isTst a) = true → mt T N false sc a y = true → PT X y (tevT G W call a))
    (pb : ∀ y, (tstX y || isTst b) = true → mt T N false sc b y = true → PT X y (tevT G W call b)) (wb : ∀ y, isBop b = true → mt T N false sc b y = true → PW X y (tevT G W call b)) : PW X x (tevT G W call (.conj a b)) := by
  unfold mt at h
  split at h
  · rename_i l r rest pos
    simp only [Bool.and_eq_true] at h
    obtain ⟨⟨h1, ha⟩, hb⟩ := h
    have pw : PW X (.BoolOp .And (r :: rest) pos) (tevT G W call b) := by
      cases rest with
      | nil => simp only [Bool.and_eq_true] at hb; exact pw_and1 (pb _ hb.1 hb.2)
      | cons q rest => simp only [Bool.and_eq_true] at hb; exact wb _ hb.1 hb.2
    exact PW.imp (pw_and (pa _ h1 ha) pw) fun σ H Q h => conj_read h
  · cases h
theorem disj_w {a b : E} {x : Expr} (h : mt T N false sc (.disj a b) x = true) (pa : ∀ y, (tstX y || isTst a) = true → mt T N false sc a y = true → PT X y (tevT G W call a))
    (pb : ∀ y, (tstX y || isTst b) = true → mt T N false sc b y = true → PT X y (tevT G W call b)) (wb : ∀ y, isBop b = true → mt T N false sc b y = true → PW X y (tevT G W call b)) : PW X x (tevT G W call (.disj a b)) := by
  unfold mt at h
  split at h
  · rename_i l r rest pos
    simp only [Bool.and_eq_true] at h
    obtain ⟨⟨h1, ha⟩, hb⟩ := h
    have pw : PW X (.BoolOp .Or (r :: rest) pos) (tevT G W call b) := by
      cases rest with
      | nil => simp only [Bool.and_eq_true] at hb; exact pw_or1 (pb _ hb.1 hb.2)
      | cons q rest => simp only [Bool.and_eq_true] at hb; exact wb _ hb.1 hb.2
    exact PW.imp (pw_or (pa _ h1 ha) pw) fun σ H Q h => disj_read h
  · cases h
theorem not_t {a : E} {x : Expr} (h : mt T N false sc (.not a) x = true) (pa : ∀ y, (tstX y || isTst a) = true → mt T N false sc a y = true → PT X y (tevT G W call a)) : PT X x (tevT G W call (.not a)) := by
  unfold mt at h
  split at h
  · simp only [Bool.and_eq_true] at h
    refine PT.imp (pt_not (pa _ h.1 h.2)) ?_
    rintro σ H Q ⟨F, α, ρ, M, R, S, h⟩
    rw [ev] at h
    refine tev_step h R S fun d1 M1 F1 v1 H1 e1 _ R1 S1 r1 h1 => ?_
    split at h1
    · obtain ⟨c, ec, q⟩ := h1.flat (fun _ z => by cases z) R1 (.bl _)
      cases ec
      exact ⟨_, rv_bool r1, q⟩
    · exact h1.elim
  · cases h
theorem pt_ifE {c a b : Expr} {pos : Pos} {t u v : TT} (hc : PT X c t) (ha : PT X a u) (hb : PT X b v) : PT X (.IfExp c a b pos) (fun σ H Q => t σ H fun k H1 => if k = true then u σ H1 Q else v σ H1 Q) := by
  refine ⟨fun pins s σ H Q I h => ?_⟩
  refine isTrue_IfExp (thn (hc.run pins s σ H _ I h) fun d s1 ⟨H1, I1, q1⟩ => ?_)
  cases d with
  | true => exact ha.run pins s1 σ H1 Q I1 q1
  | false => exact hb.run pins s1 σ H1 Q I1 q1
theorem ite_t {t a b : E} {x : Expr} (h : mt T N false sc (.ite t a b) x = true) (pt : ∀ y, (tstX y || isTst t) = true → mt T N false sc t y = true → PT X y (tevT G W call t)) (pa : ∀ y, (tstX y || isTst a) = true → mt T N false sc a y = true → PT X y (tevT G W call a))
    (pb : ∀ y, (tstX y || isTst b) = true → mt T N false sc b y = true → PT X y (tevT G W call b)) : PT X x (tevT G W call (.ite t a b)) := by
  unfold mt at h
  split at h
  · simp only [Bool.and_eq_true] at h
    obtain ⟨⟨⟨⟨⟨ht1, ht⟩, ha1⟩, ha⟩, hb1⟩, hb⟩ := h
    refine PT.imp (pt_ifE (pt _ ht1 ht) (pa _ ha1 ha) (pb _ hb1 hb)) ?_
    rintro σ H Q ⟨F, α, ρ, M, R, S, h⟩
    rw [ev] at h
    refine tevT_step (k1 := fun M1 => ev call a ρ M1) (k0 := fun M1 => ev call b ρ M1) h R S fun c M1 F1 H1 e1 _ R1 S1 h1 => ?_
    cases c with
    | true => rw [if_pos rfl] at h1 ⊢; exact ⟨F1, α, ρ, M1, R1, S1, h1⟩
    | false => rw [if_neg (by decide)] at h1 ⊢; exact ⟨F1, α, ρ, M1, R1, S1, h1⟩
  · cases h
theorem cmp_t (C : Cok G T N call W X s0 sc) {op : CmpOp} {a b : E} {x : Expr} (h : mt T N false sc (.cmp op a b) x = true) (pa : ∀ y, mt T N false sc a y = true → PE X y (tev G W call false a))
    (pb : ∀ y, mt T N false sc b y = true → PE X y (tev G W call false b)) : PT X x (tevT G W call (.cmp op a b)) := by
  unfold mt at h
  split at h
  · simp only [Bool.and_eq_true, decide_eq_true_eq] at h
    obtain ⟨⟨⟨rfl, hp⟩, ha⟩, hb⟩ := h
    refine PT.imp (pt_cmpR (cmp_ok C op) (pa _ ha) (pb _ hb) (nomark_of hp)) ?_
    rintro σ H Q ⟨F, α, ρ, M, R, S, h⟩
    rw [ev] at h
    exact tev_step h R S fun d1 M1 F1 v1 H1 e1 _ R1 S1 r1 h1 => tev_step h1 R1 S1 fun d2 M2 F2 v2 H2 e2 _ R2 S2 r2 h2 => ⟨F2, α, M2, d1, d2, R2, r1.mono e2, r2, h2⟩
  · cases h
theorem cmp2_t (C : Cok G T N call W X s0 sc) {op op' : CmpOp} {a b c : E} {x : Expr} (h : mt T N false sc (.cmp2 op op' a b c) x = true) (pa : ∀ y, mt T N false sc a y = true → PE X y (tev G W call false a))
    (pb : ∀ y, mt T N false sc b y = true → PE X y (tev G W call false b)) (pc : ∀ y, mt T N false sc c y = true → PE X y (tev G W call false c)) : PT X x (tevT G W call (.cmp2 op op' a b c)) := by
  unfold mt at h
  split at h
  · simp only [Bool.and_eq_true, decide_eq_true_eq] at h
    obtain ⟨⟨⟨⟨⟨rfl, rfl⟩, hp2⟩, ha⟩, hb⟩, hc⟩ := h
    refine PT.imp (pt_chain (cmp_ok C op) (cmp_ok C op') (pa _ ha) (pb _ hb) (pc _ hc) (by show lastMarks [_, _] [_, _] = false; simp [lastMarks, nomark_of hp2])) ?_
    rintro σ H Q ⟨F, α, ρ, M, R, S, h⟩
    rw [ev] at h
    refine tev_step h R S fun d1 M1 F1 v1 H1 e1 _ R1 S1 r1 h1 => tev_step h1 R1 S1 fun d2 M2 F2 v2 H2 e2 _ R2 S2 r2 h2 => ⟨F2, α, M2, d1, d2, R2, r1.mono e2, r2, ?_⟩
    refine h2.bind.imp fun v H1 ⟨d3, M3, F3, e3, st3, R3, r3, h3⟩ => ?_
    split at h3
    · refine ⟨true, rv_bool r3, ?_⟩
      rw [if_pos rfl]
      exact tev_step h3 R3 (S2.mono e3) fun d4 M4 F4 v4 H4 e4 _ R4 S4 r4 h4 => ⟨F4, α, M4, d2, d4, R4, (r2.mono e3).mono e4, r4, h4⟩
    · refine ⟨false, rv_bool r3, ?_⟩
      rw [if_neg (by decide)]
      exact h3.flat (fun _ z => by cases z) R3 (.bl _)
    · exact h3.elim
  · cases h
end
mutual
theorem snd_e : ∀ (e : E) {W : XK} {X : Cx} {s0 sc : Scope} (C : Cok G T N call W X s0 sc) (x : Expr) (m : Bool), mt T N false sc e x = true → (m = true → frs T e = true) → PE X x (tev G W call m e)
  | .var i, W, X, s0, sc, C, x, m, h, hm => by
    have hm' : m = false := by cases m with
      | false => rfl
      | true => exact absurd (hm rfl) (by simp [frs])
    subst hm'
    unfold mt at h
    split at h
    · rename_i n p hv
      rw [vName_eq hv]
      obtain ⟨h1, h2, h3, h4⟩ := C.slot h
      refine PE.imp (pe_var h1 h2 h3 h4) ?_
      rintro σ H Q ⟨F, α, ρ, M, R, S, h⟩
      rw [ev] at h
      cases e : ρ.getD i none with
      | none => rw [e] at h; exact h.elim
      | some d =>
        rw [e] at h
        obtain ⟨v, hs, r⟩ := S.getD e
        exact ⟨v, hs, WpE.done (d := d) h R r⟩
    · cases h
  | .int i, W, X, s0, sc, C, x, m, h, hm => by
    unfold mt at h
    split at h
    · simp only [decide_eq_true_eq] at h
      subst h
      refine PE.imp pe_int ?_
      rintro σ H Q ⟨F, α, ρ, M, R, S, h⟩
      rw [ev] at h
      exact h.flat (fun _ z => by cases z) R (.int _)
    · cases h
  | .bl i, W, X, s0, sc, C, x, m, h, hm => by
    unfold mt at h
    split at h
    · simp only [beq_iff_eq] at h
      subst h
      refine PE.imp pe_bl ?_
      rintro σ H Q ⟨F, α, ρ, M, R, S, h⟩
      rw [ev] at h
      exact h.flat (fun _ z => by cases z) R (.bl _)
    · cases h
  | .non, W, X, s0, sc, C, x, m, h, hm => by
    unfold mt at h
    split at h
    · refine PE.imp pe_non ?_
      rintro σ H Q ⟨F, α, ρ, M, R, S, h⟩
      rw [ev] at h
      exact h.flat (fun _ z => by cases z) R .non
    · cases h
  | .str i, W, X, s0, sc, C, x, m, h, hm => by
    unfold mt at h
    split at h
    · simp only [decide_eq_true_eq] at h
      subst h
      refine PE.imp pe_str ?_
      rintro σ H Q ⟨F, α, ρ, M, R, S, h⟩
      rw [ev] at h
      exact h.flat (fun _ z => by cases z) R (.str _)
    · cases h
  | .gi y i, W, X, s0, sc, C, x, m, h, hm => by
    unfold mt at h
    split at h
    · rename_i n p hv
      rw [vName_eq hv]
      simp only [Bool.and_eq_true, decide_eq_true_eq] at h
      obtain ⟨⟨⟨rfl, hg⟩, ho⟩, hc⟩ := h
      obtain ⟨t, ht⟩ := C.consts _ _ hc
      refine PE.imp (pe_glob (v := .int i) (C.gl hg) ht ⟨t, rfl⟩ (okN_d ho)) ?_
      rintro σ H Q ⟨F, α, ρ, M, R, S, h⟩
      rw [ev] at h
      exact h.flat (fun _ z => by cases z) R (.int _)
    · cases h
  | .bin op a b, W, X, s0, sc, C, x, m, h, hm => by
    unfold mt at h
    split at h
    · simp only [Bool.and_eq_true, decide_eq_true_eq] at h
      obtain ⟨⟨rfl, ha⟩, hb⟩ := h
      refine PE.imp (pe_op (opr_ok C op m) (snd_e a C _ false ha (fun z => by cases z)) (snd_e b C _ false hb (fun z => by cases z))) ?_
      rintro σ H Q ⟨F, α, ρ, M, R, S, h⟩
      rw [ev] at h
      exact tev_step h R S fun d1 M1 F1 v1 H1 e1 _ R1 S1 r1 h1 => tev_step h1 R1 S1 fun d2 M2 F2 v2 H2 e2 _ R2 S2 r2 h2 => ⟨F2, α, M2, d1, d2, R2, r1.mono e2, r2, h2⟩
    · cases h
  | .neg a, W, X, s0, sc, C, x, m, h, hm => by
    unfold mt at h
    split at h
    · refine PE.imp (pe_un un_neg (snd_e a C _ false h (fun z => by cases z))) ?_
      rintro σ H Q ⟨F, α, ρ, M, R, S, h⟩
      rw [ev] at h
      refine tev_step h R S fun d1 M1 F1 v1 H1 e1 _ R1 S1 r1 h1 => ?_
      split at h1
      · cases rv_int r1
        exact ⟨_, rfl, h1.flat (fun _ z => by cases z) R1 (.int _)⟩
      · exact h1.elim
    · cases h
  | .cmp op a b, W, X, s0, sc, C, x, m, h, hm => by
    have hm' : m = false := by cases m with
      | false => rfl
      | true => exact absurd (hm rfl) (by simp [frs])
    subst hm'
    unfold mt at h
    split at h
    · simp only [Bool.and_eq_true, decide_eq_true_eq] at h
      obtain ⟨⟨⟨rfl, hp⟩, ha⟩, hb⟩ := h
      refine PE.imp (pe_cmpR (cmp_ok C op) (snd_e a C _ false ha (fun z => by cases z)) (snd_e b C _ false hb (fun z => by cases z)) (nomark_of hp)) ?_
      rintro σ H Q ⟨F, α, ρ, M, R, S, h⟩
      rw [ev] at h
      exact tev_step h R S fun d1 M1 F1 v1 H1 e1 _ R1 S1 r1 h1 => tev_step h1 R1 S1 fun d2 M2 F2 v2 H2 e2 _ R2 S2 r2 h2 => ⟨F2, α, M2, d1, d2, R2, r1.mono e2, r2, h2⟩
    · cases h
  | .cmp2 op op' a b c, W, X, s0, sc, C, x, m, h, hm => by
    have hm' : m = false := by cases m with
      | false => rfl
      | true => exact absurd (hm rfl) (by simp [frs])
    subst hm'
    unfold mt at h
    split at h
    · simp only [Bool.and_eq_true, decide_eq_true_eq] at h
      obtain ⟨⟨⟨⟨⟨rfl, rfl⟩, hp2⟩, ha⟩, hb⟩, hc⟩ := h
      refine PE.imp (pe_chain (cmp_ok C op) (cmp_ok C op') (snd_e a C _ false ha (fun z => by cases z)) (snd_e b C _ false hb (fun z => by cases z)) (snd_e c C _ false hc (fun z => by cases z)) (by show lastMarks [_, _] [_, _] = false; simp [lastMarks, nomark_of hp2])) ?_
      rintro σ H Q ⟨F, α, ρ, M, R, S, h⟩
      rw [ev] at h
      refine tev_step h R S fun d1 M1 F1 v1 H1 e1 _ R1 S1 r1 h1 => tev_step h1 R1 S1 fun d2 M2 F2 v2 H2 e2 _ R2 S2 r2 h2 => ⟨F2, α, M2, d1, d2, R2, r1.mono e2, r2, ?_⟩
      refine h2.bind.imp fun v H1 ⟨d3, M3, F3, e3, st3, R3, r3, h3⟩ => ?_
      split at h3
      · refine ⟨true, rv_bool r3, ?_⟩
        rw [if_pos rfl]
        exact tev_step h3 R3 (S2.mono e3) fun d4 M4 F4 v4 H4 e4 _ R4 S4 r4 h4 => ⟨F4, α, M4, d2, d4, R4, (r2.mono e3).mono e4, r4, h4⟩
      · refine ⟨false, rv_bool r3, ?_⟩
        rw [if_neg (by decide)]
        exact h3.flat (fun _ z => by cases z) R3 (.bl _)
      · exact h3.elim
    · cases h
  | .conj a b, W, X, s0, sc, C, x, m, h, hm => by
    have hm' : m = false := by cases m with
      | false => rfl
      | true => exact absurd (hm rfl) (by simp [frs])
    subst hm'
    unfold mt at h
    split at h
    · rename_i l r rest pos
      simp only [Bool.and_eq_true] at h
      obtain ⟨⟨_, ha⟩, hb⟩ := h
      have pb : PE X (.BoolOp .And (r :: rest) pos) (tev G W call false b) := by
        cases rest with
        | nil => simp only [Bool.and_eq_true] at hb; exact pe_one (snd_e b C _ false hb.2 (fun z => by cases z))
        | cons q rest => simp only [Bool.and_eq_true] at hb; exact snd_e b C _ false hb.2 (fun z => by cases z)
      refine PE.imp (pe_and (snd_e a C _ false ha (fun z => by cases z)) pb) ?_
      rintro σ H Q ⟨F, α, ρ, M, R, S, h⟩
      rw [ev] at h
      refine tev_step h R S fun d1 M1 F1 v1 H1 e1 _ R1 S1 r1 h1 => ?_
      split at h1
      · exact ⟨true, rv_bool r1, by rw [if_pos rfl]; exact ⟨F1, α, ρ, M1, R1, S1, h1⟩⟩
      · exact ⟨false, rv_bool r1, by rw [if_neg (by decide)]; exact h1.flat (fun _ z => by cases z) R1 (.bl _)⟩
      · exact h1.elim
    · cases h
  | .disj a b, W, X, s0, sc, C, x, m, h, hm => by
    have hm' : m = false := by cases m with
      | false => rfl
      | true => exact absurd (hm rfl) (by simp [frs])
    subst hm'
    unfold mt at h
    split at h
    · rename_i l r rest pos
      simp only [Bool.and_eq_true] at h
      obtain ⟨⟨_, ha⟩, hb⟩ := h
      have pb : PE X (.BoolOp .Or (r :: rest) pos) (tev G W call false b) := by
        cases rest with
        | nil => simp only [Bool.and_eq_true] at hb; exact pe_one (snd_e b C _ false hb.2 (fun z => by cases z))
        | cons q rest => simp only [Bool.and_eq_true] at hb; exact snd_e b C _ false hb.2 (fun z => by cases z)
      refine PE.imp (pe_or (snd_e a C _ false ha (fun z => by cases z)) pb) ?_
      rintro σ H Q ⟨F, α, ρ, M, R, S, h⟩
      rw [ev] at h
      refine tev_step h R S fun d1 M1 F1 v1 H1 e1 _ R1 S1 r1 h1 => ?_
      split at h1
      · exact ⟨true, rv_bool r1, by rw [if_pos rfl]; exact h1.flat (fun _ z => by cases z) R1 (.bl _)⟩
      · exact ⟨false, rv_bool r1, by rw [if_neg (by decide)]; exact ⟨F1, α, ρ, M1, R1, S1, h1⟩⟩
      · exact h1.elim
    · cases h
  | .not a, W, X, s0, sc, C, x, m, h, hm => by
    have hm' : m = false := by cases m with
      | false => rfl
      | true => exact absurd (hm rfl) (by simp [frs])
    subst hm'
    unfold mt at h
    split at h
    · simp only [Bool.and_eq_true] at h
      refine PE.imp (pe_not (snd_e a C _ false h.2 (fun z => by cases z))) ?_
      rintro σ H Q ⟨F, α, ρ, M, R, S, h⟩
      rw [ev] at h
      refine tev_step h R S fun d1 M1 F1 v1 H1 e1 _ R1 S1 r1 h1 => ?_
      split at h1
      · exact ⟨_, rv_bool r1, h1.flat (fun _ z => by cases z) R1 (.bl _)⟩
      · exact h1.elim
    · cases h
  | .ite t a b, W, X, s0, sc, C, x, m, h, hm => by
    unfold mt at h
    split at h
    · simp only [Bool.and_eq_true] at h
      obtain ⟨⟨⟨⟨⟨ht1, ht⟩, _⟩, ha⟩, _⟩, hb⟩ := h
      have hf : m = true → frs T a = true ∧ frs T b = true := fun z => by simpa [frs] using hm z
      refine PE.imp (pe_ifExp (snd_t t C _ ht1 ht) (snd_e a C _ m ha (fun z => (hf z).1)) (snd_e b C _ m hb (fun z => (hf z).2))) ?_
      rintro σ H Q ⟨F, α, ρ, M, R, S, h⟩
      rw [ev] at h
      refine tevT_step (k1 := fun M1 => ev call a ρ M1) (k0 := fun M1 => ev call b ρ M1) h R S fun c M1 F1 H1 e1 _ R1 S1 h1 => ?_
      cases c with
      | true => rw [if_pos rfl] at h1 ⊢; exact ⟨F1, α, ρ, M1, R1, S1, h1⟩
      | false => rw [if_neg (by decide)] at h1 ⊢; exact ⟨F1, α, ρ, M1, R1, S1, h1⟩
    · cases h
  | .tup es, W, X, s0, sc, C, x, m, h, hm => by
    unfold mt at h
    split at h
    · refine PE.imp (pe_tup (snd_s es C _ h)) ?_
      rintro σ H Q ⟨F, α, ρ, M, R, S, h⟩
      rw [ev] at h
      refine tevA_step h R S fun ds M1 F1 vs H1 e1 _ R1 S1 rs h1 => ?_
      split at h1
      · rename_i ys hd
        split at h1
        · rename_i hl
          have g := datas_dq rs hd
          exact ⟨by rw [DqAll.length g]; exact line_le hl, fun p hp => h1.tupM R1 hp g⟩
        · exact h1.elim
      · exact h1.elim
    · cases h
  | .lst es, W, X, s0, sc, C, x, m, h, hm => by
    unfold mt at h
    split at h
    · refine PE.imp (pe_lst (snd_s es C _ h)) ?_
      rintro σ H Q ⟨F, α, ρ, M, R, S, h⟩
      rw [ev] at h
      refine tevA_step h R S fun ds M1 F1 vs H1 e1 _ R1 S1 rs h1 => ?_
      split at h1
      · rename_i ys hd
        split at h1
        · rename_i hl
          have g := datas_dq rs hd
          exact ⟨by rw [DqAll.length g]; exact line_le hl, fun p hp => h1.list R1 hp g⟩
        · exact h1.elim
      · exact h1.elim
    · cases h
  | .ix a b, W, X, s0, sc, C, x, m, h, hm => by
    have hm' : m = false := by cases m with
      | false => rfl
      | true => exact absurd (hm rfl) (by simp [frs])
    subst hm'
    unfold mt at h
    split at h
    · simp only [Bool.and_eq_true] at h
      obtain ⟨⟨hp, ha⟩, hb⟩ := h
      refine PE.imp (pe_ix (ix_ok C) (snd_e a C _ false ha (fun z => by cases z)) (snd_e b C _ false hb (fun z => by cases z)) (plainIx_of hp)) ?_
      rintro σ H Q ⟨F, α, ρ, M, R, S, h⟩
      rw [ev] at h
      exact tev_step h R S fun d1 M1 F1 v1 H1 e1 _ R1 S1 r1 h1 => tev_step h1 R1 S1 fun d2 M2 F2 v2 H2 e2 _ R2 S2 r2 h2 => ⟨F2, α, M2, d1, d2, R2, r1.mono e2, r2, h2⟩
    · cases h
  | .slc a lo hi, W, X, s0, sc, C, x, m, h, hm => by
    unfold mt at h
    split at h
    · rename_i l lo' hi' p2 pos
      simp only [Bool.and_eq_true] at h
      obtain ⟨⟨ha, hlo⟩, hhi⟩ := h
      have plo : PO X lo' (tO G W call lo) := by
        unfold tO
        cases lo' with
        | none => rw [if_pos hlo]; exact po_none
        | some e =>
          simp only [Bool.and_eq_true, Bool.not_eq_true'] at hlo
          rw [if_neg (by simp [hlo.1])]
          exact po_some (snd_e lo C _ false hlo.2 (fun z => by cases z))
      have phi : PO X hi' (tO G W call hi) := by
        unfold tO
        cases hi' with
        | none => rw [if_pos hhi]; exact po_none
        | some e =>
          simp only [Bool.and_eq_true, Bool.not_eq_true'] at hhi
          rw [if_neg (by simp [hhi.1])]
          exact po_some (snd_e hi C _ false hhi.2 (fun z => by cases z))
      refine PE.imp (pe_slice (sl_ok C m) (snd_e a C _ false ha (fun z => by cases z)) plo phi) ?_
      rintro σ H Q ⟨F, α, ρ, M, R, S, h⟩
      rw [ev] at h
      refine tev_step h R S fun d1 M1 F1 v1 H1 e1 _ R1 S1 r1 h1 => ?_
      refine tO_step h1 R1 S1 fun l M2 F2 H2 e2 _ R2 S2 h2 => tO_step h2 R2 S2 fun u M3 F3 H3 e3 _ R3 S3 h3 => ⟨F3, α, M3, d1, R3, (r1.mono e2).mono e3, h3⟩
    · cases h
  | .rev a, W, X, s0, sc, C, x, m, h, hm => by
    unfold mt at h
    split at h
    · refine PE.imp (pe_revA (snd_e a C _ false h (fun z => by cases z))) ?_
      rintro σ H Q ⟨F, α, ρ, M, R, S, h⟩
      rw [ev] at h
      refine tev_step h R S fun d1 M1 F1 v1 H1 e1 _ R1 S1 r1 h1 => ?_
      split at h1
      · rename_i xs hx
        obtain ⟨a, vs, rfl, h2, g⟩ := R1.viewL r1 hx
        exact ⟨a, vs, rfl, .inl ⟨.inl h2, fun p hp => h1.list R1 hp (DqAll.reverse g)⟩⟩
      · rename_i xs hx
        obtain ⟨a, vs, rfl, f2, h2, g⟩ := R1.viewT r1 hx
        exact ⟨a, vs, rfl, .inr ⟨.inl (.inl h2), fun p hp => h1.tupM R1 hp (DqAll.reverse g)⟩⟩
      · exact h1.elim
    · cases h
  | .nop, W, X, s0, sc, C, x, m, h, hm => by
    unfold mt at h
    cases h
  | .call f es, W, X, s0, sc, C, x, m, h, hm => by
    unfold mt at h
    split at h
    · rename_i n p xs pos hv
      rw [vCall_eq hv]
      simp only [Bool.and_eq_true, decide_eq_true_eq] at h
      obtain ⟨⟨⟨hf, hg⟩, ho⟩, hs⟩ := h
      obtain ⟨fd, hfd, rfl⟩ := Option.map_eq_some_iff.mp hf
      obtain ⟨k, hF, hr, hx⟩ := C.fns
      obtain ⟨h1, h2, fdata, hb, hfn⟩ := hF.fn f fd hfd
      have hnw : m = true → fd.nw = true := fun z => by
        have q := hm z
        simpa [frs, hfd] using q
      have kk := C.kk
      have pa := snd_s es C xs hs
      have rd : ∀ σ H Q, tev G W call m (.call f es) σ H Q → tCall (spEv G call f m) [] W (tevA G W call es) σ H Q := by
        rintro σ H Q ⟨F, α, ρ, M, R, S, h⟩
        rw [ev] at h
        refine tevA_step h R S fun ds M1 F1 vs H1 e1 _ R1 S1 rs h1 => ?_
        rw [List.append_nil]
        exact ⟨F1, α, M1, ds, R1, rs, h1⟩
      have hfn' : FnG X.prog X.w X.K X.mg X.base (L2.CX X.prog X.w) k (G.fa f) fdata fd.ps (spEv G call f m) := by rw [kk]; exact hfn m hnw
      cases xs with
      | nil =>
        have e0 : ∀ σ H Q, tevA G W call es σ H Q → tNil σ H Q := by
          cases es with
          | cons a b => cases hs
          | nil =>
            rintro σ H Q ⟨F, α, ρ, M, R, S, h⟩
            rw [evs] at h
            have := h F [] H (Same.refl _) R (Stp.refl _ _ _) .nil
            exact this
        exact PE.imp (pe_callG0 hfn' C.gd hr (C.gl hg) h1 (by rw [kk]; exact h2) (by rw [kk]; exact hb) hx (okN_d ho)) fun σ H Q q => e0 _ _ _ (rd σ H Q q)
      | cons y ys =>
        have hp : plainX y = true := by
          cases es with
          | nil => cases hs
          | cons a b =>
            have hs : (plainX y && mt T N false sc a y && mts T N sc b ys) = true := hs
            simp only [Bool.and_eq_true] at hs
            exact hs.1.1
        refine PE.imp (pe_callG hfn' C.gd hr (C.gl hg) h1 (by rw [kk]; exact h2) (by rw [kk]; exact hb) hx pa (okN_d ho) (starEach_plain ys X.env hp) ?_) rd
        exact mts_back hs
    · cases h
  | .blt b es, W, X, s0, sc, C, x, m, h, hm => by
    unfold mt at h
    split at h
    · rename_i n p xs pos hv
      rw [vCall_eq hv]
      simp only [Bool.and_eq_true, decide_eq_true_eq] at h
      obtain ⟨⟨⟨⟨⟨hgc, rfl⟩, hl⟩, hg⟩, ho⟩, hs⟩ := h
      have pa := snd_s es C xs hs
      have rd : ∀ σ H Q, tev G W call m (.blt b es) σ H Q → tCB (rBt G W b m) (tevA G W call es) σ H Q := by
        rintro σ H Q ⟨F, α, ρ, M, R, S, h⟩
        rw [ev] at h
        exact tevA_step h R S fun ds M1 F1 vs H1 e1 _ R1 S1 rs h1 => ⟨F1, α, M1, ds, R1, rs, h1⟩
      cases xs with
      | nil => cases b <;> cases hl
      | cons y ys =>
        have hp : plainX y = true := by
          cases es with
          | nil => cases hs
          | cons a b =>
            have hs : (plainX y && mt T N false sc a y && mts T N sc b ys) = true := hs
            simp only [Bool.and_eq_true] at hs
            exact hs.1.1
        have st := starEach_plain ys X.env hp
        have bk := mts_back (env := X.env) (pos := pos) hs
        have hok := blt_ok C b m (fun z => by
          have q := hm z
          constructor <;> (intro e; subst e; cases q))
        cases b with
        | len => exact PE.imp (pe_callB (id := "len") hok (C.gl hg) (C.blt _ (bt_in .len (by decide))) (by decide +kernel) pa (okN_n ho) (okN_d ho) st bk) rd
        | abs => exact PE.imp (pe_callB (id := "abs") hok (C.gl hg) (C.blt _ (bt_in .abs (by decide))) (by decide +kernel) pa (okN_n ho) (okN_d ho) st bk) rd
        | min2 => exact PE.imp (pe_callB (id := "min") hok (C.gl hg) (C.blt _ (bt_in .min2 (by decide))) (by decide +kernel) pa (okN_n ho) (okN_d ho) st bk) rd
        | max2 => exact PE.imp (pe_callB (id := "max") hok (C.gl hg) (C.blt _ (bt_in .max2 (by decide))) (by decide +kernel) pa (okN_n ho) (okN_d ho) st bk) rd
        | min => exact PE.imp (pe_callB (id := "min") hok (C.gl hg) (C.blt _ (bt_in .min (by decide))) (by decide +kernel) pa (okN_n ho) (okN_d ho) st bk) rd
        | max => exact PE.imp (pe_callB (id := "max") hok (C.gl hg) (C.blt _ (bt_in .max (by decide))) (by decide +kernel) pa (okN_n ho) (okN_d ho) st bk) rd
        | sum => exact PE.imp (pe_callB (id := "sum") hok (C.gl hg) (C.blt _ (bt_in .sum (by decide))) (by decide +kernel) pa (okN_n ho) (okN_d ho) st bk) rd
        | sorted => exact PE.imp (pe_callB (id := "sorted") hok (C.gl hg) (C.blt _ (bt_in .sorted (by decide))) (by decide +kernel) pa (okN_n ho) (okN_d ho) st bk) rd
        | all => exact PE.imp (pe_callB (id := "all") hok (C.gl hg) (C.blt _ (bt_in .all (by decide))) (by decide +kernel) pa (okN_n ho) (okN_d ho) st bk) rd
        | any => exact PE.imp (pe_callB (id := "any") hok (C.gl hg) (C.blt _ (bt_in .any (by decide))) (by decide +kernel) pa (okN_n ho) (okN_d ho) st bk) rd
        | repr => exact PE.imp (pe_callB (id := "repr") hok (C.gl hg) (C.blt _ (bt_in .repr (by decide))) (by decide +kernel) pa (okN_n ho) (okN_d ho) st bk) rd
        | tuple => exact PE.imp (pe_callTy (T := "tuple") hok (C.gl hg) (C.blt _ (bt_in .tuple (by decide))) (by decide +kernel) pa (okN_n ho) (okN_d ho) st bk) rd
        | list => exact PE.imp (pe_callTy (T := "list") hok (C.gl hg) (C.blt _ (bt_in .list (by decide))) (by decide +kernel) pa (okN_n ho) (okN_d ho) st bk) rd
        | int => exact PE.imp (pe_callTy (T := "int") hok (C.gl hg) (C.blt _ (bt_in .int (by decide))) (by decide +kernel) pa (okN_n ho) (okN_d ho) st bk) rd
        | str => exact PE.imp (pe_callTy (T := "str") hok (C.gl hg) (C.blt _ (bt_in .str (by decide))) (by decide +kernel) pa (okN_n ho) (okN_d ho) st bk) rd
        | gcd => exact PE.imp (pe_callBfun (id := "math.gcd") hok (C.gl hg) (C.gcd (by simpa using hgc)) pa (okN_d ho) st bk) rd
    · cases h
  | .isi a t, W, X, s0, sc, C, x, m, h, hm => by
    unfold mt at h
    split at h
    · rename_i n p l r pos hv
      rw [vCall_eq hv]
      simp only [Bool.and_eq_true, decide_eq_true_eq] at h
      obtain ⟨⟨⟨⟨⟨rfl, hg⟩, ho⟩, hpl0⟩, ha⟩, hr⟩ := h
      split at hr
      · rename_i q p2 hv2
        rw [vName_eq hv2]
        simp only [Bool.and_eq_true, decide_eq_true_eq] at hr
        obtain ⟨⟨rfl, hg2⟩, ho2⟩ := hr
        have pt : PE X (.Name (tyName t) p2) (tC (.ty (tyStr t))) := pe_bltn (C.gl hg2) (C.blt _ (ty_in t)) (ty_boot t) rfl (okN_n ho2) (okN_d ho2)
        have hpl : starEach [l, .Name (tyName t) p2] X.env = (false, eval l X.env) :: starEach [.Name (tyName t) p2] X.env := starEach_plain _ _ hpl0
        have pa : PA X [l, .Name (tyName t) p2] (tCons (tev G W call false a) (tCons (tC (.ty (tyStr t))) tNil)) := pa_cons (snd_e a C _ false ha (fun z => by cases z)) (pa_cons pt pa_nil) hpl
        refine PE.imp (pe_callB (id := "isinstance") call_isi (C.gl hg) (C.blt _ keyN.1) (by decide +kernel) pa (okN_n ho) (okN_d ho) hpl) ?_
        rintro σ H Q ⟨F, α, ρ, M, R, S, h⟩
        rw [ev] at h
        refine tev_step h R S fun d1 M1 F1 v1 H1 e1 _ R1 S1 r1 h1 => ?_
        split at h1
        · rename_i y
          obtain ⟨ty, nd⟩ := dq_ty (K := X.K) R1.sub (show Dq F1 v1 y from r1)
          exact ⟨v1, .ty (tyStr t), .type (dTy y), .type (tyStr t), isTy t y, rfl, .ty _, ty, kit_ty (ty_kit t y nd), h1.flat (fun _ z => by cases z) R1 (.bl _)⟩
        · exact h1.elim
      · cases hr
    · cases h
  | .get i k, W, X, s0, sc, C, x, m, h, hm => by
    have hm' : m = false := by cases m with
      | false => rfl
      | true => exact absurd (hm rfl) (by simp [frs])
    subst hm'
    unfold mt at h
    split at h
    · rename_i n p mm q l pos hv
      rw [vMeth_eq hv]
      simp only [Bool.and_eq_true, decide_eq_true_eq] at h
      obtain ⟨⟨⟨⟨hs, rfl⟩, hq⟩, hpl0⟩, hk⟩ := h
      obtain ⟨h1, h2, h3, h4⟩ := C.slot hs
      have hst : starEach [l] X.env = [(false, eval l X.env)] := starEach_plain [] _ hpl0
      have hu : X.A.units + 1 < cLine := by have := C.un; omega
      refine PE.imp (pe_dget1 hu (pe_var h1 h2 h3 h4) (snd_e k C _ false hk (fun z => by cases z)) ⟨rfl, by rw [hst]; rfl, hq, by rw [hst]; rfl⟩) ?_
      rintro σ H Q ⟨F, α, ρ, M, R, S, h⟩
      rw [ev] at h
      split at h
      · rename_i o eo
        obtain ⟨v, hsv, ro⟩ := S.getD eo
        split at h
        · rename_i hd
          obtain ⟨a, rfl, hD⟩ := own_isD R ro hd
          refine ⟨_, hsv, a, rfl, hD, tev_step h R S fun d1 M1 F1 v1 H1 e1 _ R1 S1 r1 h1 => ?_⟩
          split at h1
          · rename_i y
            split at h1
            · rename_i r er
              obtain ⟨a', ov, e', g, lk⟩ := dlook_get C R1 (ro.mono e1) r1 er
              cases e'
              exact ⟨ov, g, h1.flat' R1 (getD_lk lk)⟩
            · exact h1.elim
          · exact h1.elim
        · exact h.elim
      · exact h.elim
    · cases h
  | .get2 i k w, W, X, s0, sc, C, x, m, h, hm => by
    have hm' : m = false := by cases m with
      | false => rfl
      | true => exact absurd (hm rfl) (by simp [frs])
    subst hm'
    unfold mt at h
    split at h
    · rename_i n p mm q l r pos hv
      rw [vMeth_eq hv]
      simp only [Bool.and_eq_true, decide_eq_true_eq] at h
      obtain ⟨⟨⟨⟨⟨⟨hs, rfl⟩, hq⟩, hpl0⟩, hpl1⟩, hk⟩, hw⟩ := h
      obtain ⟨h1, h2, h3, h4⟩ := C.slot hs
      have hst : starEach [l, r] X.env = [(false, eval l X.env), (false, eval r X.env)] := (starEach_plain [r] _ hpl0).trans (congrArg _ (starEach_plain [] _ hpl1))
      have hu : X.A.units + 1 < cLine := by have := C.un; omega
      refine PE.imp (pe_dget2 hu (pe_var h1 h2 h3 h4) (snd_e k C _ false hk (fun z => by cases z)) (snd_e w C _ false hw (fun z => by cases z)) ⟨rfl, by rw [hst]; rfl, hq, by rw [hst]; rfl⟩) ?_
      rintro σ H Q ⟨F, α, ρ, M, R, S, h⟩
      rw [ev] at h
      split at h
      · rename_i o eo
        obtain ⟨v, hsv, ro⟩ := S.getD eo
        split at h
        · rename_i hd
          obtain ⟨a, rfl, hD⟩ := own_isD R ro hd
          refine ⟨_, hsv, a, rfl, hD, tev_step h R S fun d1 M1 F1 v1 H1 e1 _ R1 S1 r1 h1 => tev_step h1 R1 S1 fun d2 M2 F2 v2 H2 e2 _ R2 S2 r2 h2 => ?_⟩
          split at h2
          · rename_i y z
            split at h2
            · rename_i r er
              obtain ⟨a', ov, e', g, lk⟩ := dlook_get C R2 ((ro.mono e1).mono e2) (r1.mono e2) er
              cases e'
              exact ⟨ov, g, h2.flat' R2 (getD_lk2 lk r2)⟩
            · exact h2.elim
          · exact h2.elim
        · exact h.elim
      · exact h.elim
    · cases h
  | .lc elt tg it cond vs, W, X, s0, sc, C, x, m, h, hm => lc_fin C h (fun s1 tgx i z1 _ z2 z3 => snd_it it C i z1 z2 z3) (fun C' y z => snd_e elt C' y false z (fun q => by cases q)) (fun C' y z1 z2 => snd_t cond C' y z1 z2)
  | .lc2 elt tg it cond vs tg1 it1 cond1 vs1, W, X, s0, sc, C, x, m, h, hm => lc2_fin C h (fun s1 tgx i z1 z2 z3 => snd_it it C i z1 z2 z3) (fun C' s2 tgx i z1 z2 z3 => snd_it it1 C' i z1 z2 z3) (fun C' y z => snd_e elt C' y false z (fun q => by cases q)) (fun C' y z1 z2 => snd_t cond C' y z1 z2) (fun C' y z1 z2 => snd_t cond1 C' y z1 z2)
  | .lcO elt tg i cond vs, W, X, s0, sc, C, x, m, h, hm => lcO_fin C h (fun C' y z => snd_e elt C' y false z (fun q => by cases q)) (fun C' y z1 z2 => snd_t cond C' y z1 z2)
  | .lrg t es, W, X, s0, sc, C, x, m, h, hm => lrg_fin C h fun ys z => snd_s es C ys z
  | .lix i k, W, X, s0, sc, C, x, m, h, hm => by
    have hm' : m = false := by cases m with
      | false => rfl
      | true => exact absurd (hm rfl) (by simp [frs])
    subst hm'
    exact lix_fin C h fun y z => snd_e k C y false z (fun q => by cases q)
  | .sst e, W, X, s0, sc, C, x, m, h, hm => sst_fin C h fun y z => snd_e e C y false z (fun q => by cases q)
  | .dct ks vs, W, X, s0, sc, C, x, m, h, hm => by
    unfold mt at h
    split at h
    · simp at h
    · cases h
  | .rng es, W, X, s0, sc, C, x, m, h, hm => by
    unfold mt at h
    split at h
    · simp at h
    · cases h
  | .zip es, W, X, s0, sc, C, x, m, h, hm => by
    unfold mt at h
    split at h
    · simp at h
    · cases h
  | .enm es, W, X, s0, sc, C, x, m, h, hm => by
    unfold mt at h
    split at h
    · simp at h
    · cases h
termination_by e => (sizeOf e, 0)
theorem snd_t : ∀ (e : E) {W : XK} {X : Cx} {s0 sc : Scope} (C : Cok G T N call W X s0 sc) (x : Expr), (tstX x || isTst e) = true → mt T N false sc e x = true → PT X x (tevT G W call e)
  | .not a, W, X, s0, sc, C, x, ht, h => not_t h fun y z1 z2 => snd_t a C y z1 z2
  | .conj a b, W, X, s0, sc, C, x, ht, h => PW.pt (conj_w h (fun y z1 z2 => snd_t a C y z1 z2) (fun y z1 z2 => snd_t b C y z1 z2) (fun y z1 z2 => snd_w b C y z1 z2))
  | .disj a b, W, X, s0, sc, C, x, ht, h => PW.pt (disj_w h (fun y z1 z2 => snd_t a C y z1 z2) (fun y z1 z2 => snd_t b C y z1 z2) (fun y z1 z2 => snd_w b C y z1 z2))
  | .ite t a b, W, X, s0, sc, C, x, ht, h => ite_t h (fun y z1 z2 => snd_t t C y z1 z2) (fun y z1 z2 => snd_t a C y z1 z2) (fun y z1 z2 => snd_t b C y z1 z2)
  | .cmp op a b, W, X, s0, sc, C, x, ht, h => cmp_t C h (fun y z => snd_e a C y false z (fun q => by cases q)) (fun y z => snd_e b C y false z (fun q => by cases q))
  | .cmp2 op op' a b c, W, X, s0, sc, C, x, ht, h => cmp2_t C h (fun y z => snd_e a C y false z (fun q => by cases q)) (fun y z => snd_e b C y false z (fun q => by cases q)) (fun y z => snd_e c C y false z (fun q => by cases q))
  | .var i, W, X, s0, sc, C, x, ht, h => tst_v (snd_e (.var i) C x false h (fun q => by cases q)) (by simpa [isTst] using ht)
  | .int i, W, X, s0, sc, C, x, ht, h => tst_v (snd_e (.int i) C x false h (fun q => by cases q)) (by simpa [isTst] using ht)
  | .bl i, W, X, s0, sc, C, x, ht, h => tst_v (snd_e (.bl i) C x false h (fun q => by cases q)) (by simpa [isTst] using ht)
  | .non, W, X, s0, sc, C, x, ht, h => tst_v (snd_e .non C x false h (fun q => by cases q)) (by simpa [isTst] using ht)
  | .str i, W, X, s0, sc, C, x, ht, h => tst_v (snd_e (.str i) C x false h (fun q => by cases q)) (by simpa [isTst] using ht)
  | .gi y i, W, X, s0, sc, C, x, ht, h => tst_v (snd_e (.gi y i) C x false h (fun q => by cases q)) (by simpa [isTst] using ht)
  | .bin op a b, W, X, s0, sc, C, x, ht, h => tst_v (snd_e (.bin op a b) C x false h (fun q => by cases q)) (by simpa [isTst] using ht)
  | .neg a, W, X, s0, sc, C, x, ht, h => tst_v (snd_e (.neg a) C x false h (fun q => by cases q)) (by simpa [isTst] using ht)
  | .tup es, W, X, s0, sc, C, x, ht, h => tst_v (snd_e (.tup es) C x false h (fun q => by cases q)) (by simpa [isTst] using ht)
  | .lst es, W, X, s0, sc, C, x, ht, h => tst_v (snd_e (.lst es) C x false h (fun q => by cases q)) (by simpa [isTst] using ht)
  | .ix a b, W, X, s0, sc, C, x, ht, h => tst_v (snd_e (.ix a b) C x false h (fun q => by cases q)) (by simpa [isTst] using ht)
  | .slc a lo hi, W, X, s0, sc, C, x, ht, h => tst_v (snd_e (.slc a lo hi) C x false h (fun q => by cases q)) (by simpa [isTst] using ht)
  | .rev a, W, X, s0, sc, C, x, ht, h => tst_v (snd_e (.rev a) C x false h (fun q => by cases q)) (by simpa [isTst] using ht)
  | .nop, W, X, s0, sc, C, x, ht, h => tst_v (snd_e .nop C x false h (fun q => by cases q)) (by simpa [isTst] using ht)
  | .call f es, W, X, s0, sc, C, x, ht, h => tst_v (snd_e (.call f es) C x false h (fun q => by cases q)) (by simpa [isTst] using ht)
  | .blt b es, W, X, s0, sc, C, x, ht, h => tst_v (snd_e (.blt b es) C x false h (fun q => by cases q)) (by simpa [isTst] using ht)
  | .isi a t, W, X, s0, sc, C, x, ht, h => tst_v (snd_e (.isi a t) C x false h (fun q => by cases q)) (by simpa [isTst] using ht)
  | .get i k, W, X, s0, sc, C, x, ht, h => tst_v (snd_e (.get i k) C x false h (fun q => by cases q)) (by simpa [isTst] using ht)
  | .get2 i k w, W, X, s0, sc, C, x, ht, h => tst_v (snd_e (.get2 i k w) C x false h (fun q => by cases q)) (by simpa [isTst] using ht)
  | .lc elt tg it cond vs, W, X, s0, sc, C, x, ht, h => tst_v (snd_e (.lc elt tg it cond vs) C x false h (fun q => by cases q)) (by simpa [isTst] using ht)
  | .lc2 elt tg it cond vs tg1 it1 cond1 vs1, W, X, s0, sc, C, x, ht, h => tst_v (snd_e (.lc2 elt tg it cond vs tg1 it1 cond1 vs1) C x false h (fun q => by cases q)) (by simpa [isTst] using ht)
  | .lcO elt tg i cond vs, W, X, s0, sc, C, x, ht, h => tst_v (snd_e (.lcO elt tg i cond vs) C x false h (fun q => by cases q)) (by simpa [isTst] using ht)
  | .dct ks vs, W, X, s0, sc, C, x, ht, h => tst_v (snd_e (.dct ks vs) C x false h (fun q => by cases q)) (by simpa [isTst] using ht)
  | .lrg t es, W, X, s0, sc, C, x, ht, h => tst_v (snd_e (.lrg t es) C x false h (fun q => by cases q)) (by simpa [isTst] using ht)
  | .lix i k, W, X, s0, sc, C, x, ht, h => tst_v (snd_e (.lix i k) C x false h (fun q => by cases q)) (by simpa [isTst] using ht)
  | .sst e, W, X, s0, sc, C, x, ht, h => tst_v (snd_e (.sst e) C x false h (fun q => by cases q)) (by simpa [isTst] using ht)
  | .rng es, W, X, s0, sc, C, x, ht, h => tst_v (snd_e (.rng es) C x false h (fun q => by cases q)) (by simpa [isTst] using ht)
  | .zip es, W, X, s0, sc, C, x, ht, h => tst_v (snd_e (.zip es) C x false h (fun q => by cases q)) (by simpa [isTst] using ht)
  | .enm e, W, X, s0, sc, C, x, ht, h => tst_v (snd_e (.enm e) C x false h (fun q => by cases q)) (by simpa [isTst] using ht)
termination_by e => (sizeOf e, 2)
theorem snd_w : ∀ (e : E) {W : XK} {X : Cx} {s0 sc : Scope} (C : Cok G T N call W X s0 sc) (x : Expr), isBop e = true → mt T N false sc e x = true → PW X x (tevT G W call e)
  | .conj a b, W, X, s0, sc, C, x, ht, h => conj_w h (fun y z1 z2 => snd_t a C y z1 z2) (fun y z1 z2 => snd_t b C y z1 z2) (fun y z1 z2 => snd_w b C y z1 z2)
  | .disj a b, W, X, s0, sc, C, x, ht, h => disj_w h (fun y z1 z2 => snd_t a C y z1 z2) (fun y z1 z2 => snd_t b C y z1 z2) (fun y z1 z2 => snd_w b C y z1 z2)
  | .var i, W, X, s0, sc, C, x, ht, h => by cases ht
  | .int i, W, X, s0, sc, C, x, ht, h => by cases ht
  | .bl i, W, X, s0, sc, C, x, ht, h => by cases ht
  | .non, W, X, s0, sc, C, x, ht, h => by cases ht
  | .str i, W, X, s0, sc, C, x, ht, h => by cases ht
  | .gi y i, W, X, s0, sc, C, x, ht, h => by cases ht
  | .bin op a b, W, X, s0, sc, C, x, ht, h => by cases ht
  | .neg a, W, X, s0, sc, C, x, ht, h => by cases ht
  | .tup es, W, X, s0, sc, C, x, ht, h => by cases ht
  | .lst es, W, X, s0, sc, C, x, ht, h => by cases ht
  | .ix a b, W, X, s0, sc, C, x, ht, h => by cases ht
  | .slc a lo hi, W, X, s0, sc, C, x, ht, h => by cases ht
  | .rev a, W, X, s0, sc, C, x, ht, h => by cases ht
  | .nop, W, X, s0, sc, C, x, ht, h => by cases ht
  | .call f es, W, X, s0, sc, C, x, ht, h => by cases ht
  | .blt b es, W, X, s0, sc, C, x, ht, h => by cases ht
  | .isi a t, W, X, s0, sc, C, x, ht, h => by cases ht
  | .get i k, W, X, s0, sc, C, x, ht, h => by cases ht
  | .get2 i k w, W, X, s0, sc, C, x, ht, h => by cases ht
  | .lc elt tg it cond vs, W, X, s0, sc, C, x, ht, h => by cases ht
  | .lc2 elt tg it cond vs tg1 it1 cond1 vs1, W, X, s0, sc, C, x, ht, h => by cases ht
  | .lcO elt tg i cond vs, W, X, s0, sc, C, x, ht, h => by cases ht
  | .dct ks vs, W, X, s0, sc, C, x, ht, h => by cases ht
  | .lrg t es, W, X, s0, sc, C, x, ht, h => by cases ht
  | .lix i k, W, X, s0, sc, C, x, ht, h => by cases ht
  | .sst e, W, X, s0, sc, C, x, ht, h => by cases ht
  | .rng es, W, X, s0, sc, C, x, ht, h => by cases ht
  | .zip es, W, X, s0, sc, C, x, ht, h => by cases ht
  | .enm e, W, X, s0, sc, C, x, ht, h => by cases ht
  | .not a, W, X, s0, sc, C, x, ht, h => by cases ht
  | .ite t a b, W, X, s0, sc, C, x, ht, h => by cases ht
  | .cmp op a b, W, X, s0, sc, C, x, ht, h => by cases ht
  | .cmp2 op op' a b c, W, X, s0, sc, C, x, ht, h => by cases ht
termination_by e => (sizeOf e, 1)
theorem snd_it : ∀ (it : E) {W : XK} {X : Cx} {s0 sc : Scope} (C : Cok G T N call W X s0 sc) {s1 : Scope} {tg : Tg} {tgx : Expr} (i : Expr), itTg it tg = true → mtTg N s1 tg tgx = true → mt T N (isIt it) sc it i = true → PI X tgx i (tevI G W call it)
  | .rng es, W, X, s0, sc, C, s1, tg, tgx, i, h1, h2, h3 => pi_rg C h3 fun ys z => snd_s es C ys z
  | .zip es, W, X, s0, sc, C, s1, tg, tgx, i, h1, h2, h3 => pi_zp C h1 h2 h3 fun ys z => snd_s es C ys z
  | .enm e, W, X, s0, sc, C, s1, tg, tgx, i, h1, h2, h3 => pi_en C h1 h2 h3 fun y z => snd_e e C y false z (fun q => by cases q)
  | .var i, W, X, s0, sc, C, s1, tg, tgx, ii, h1, h2, h3 => pi_sq C (snd_e (.var i) C ii false h3 (fun q => by cases q))
  | .int i, W, X, s0, sc, C, s1, tg, tgx, ii, h1, h2, h3 => pi_sq C (snd_e (.int i) C ii false h3 (fun q => by cases q))
  | .bl i, W, X, s0, sc, C, s1, tg, tgx, ii, h1, h2, h3 => pi_sq C (snd_e (.bl i) C ii false h3 (fun q => by cases q))
  | .non, W, X, s0, sc, C, s1, tg, tgx, ii, h1, h2, h3 => pi_sq C (snd_e .non C ii false h3 (fun q => by cases q))
  | .str i, W, X, s0, sc, C, s1, tg, tgx, ii, h1, h2, h3 => pi_sq C (snd_e (.str i) C ii false h3 (fun q => by cases q))
  | .gi y i, W, X, s0, sc, C, s1, tg, tgx, ii, h1, h2, h3 => pi_sq C (snd_e (.gi y i) C ii false h3 (fun q => by cases q))
  | .bin op a b, W, X, s0, sc, C, s1, tg, tgx, ii, h1, h2, h3 => pi_sq C (snd_e (.bin op a b) C ii false h3 (fun q => by cases q))
  | .neg a, W, X, s0, sc, C, s1, tg, tgx, ii, h1, h2, h3 => pi_sq C (snd_e (.neg a) C ii false h3 (fun q => by cases q))
  | .cmp op a b, W, X, s0, sc, C, s1, tg, tgx, ii, h1, h2, h3 => pi_sq C (snd_e (.cmp op a b) C ii false h3 (fun q => by cases q))
  | .cmp2 op op' a b c, W, X, s0, sc, C, s1, tg, tgx, ii, h1, h2, h3 => pi_sq C (snd_e (.cmp2 op op' a b c) C ii false h3 (fun q => by cases q))
  | .conj a b, W, X, s0, sc, C, s1, tg, tgx, ii, h1, h2, h3 => pi_sq C (snd_e (.conj a b) C ii false h3 (fun q => by cases q))
  | .disj a b, W, X, s0, sc, C, s1, tg, tgx, ii, h1, h2, h3 => pi_sq C (snd_e (.disj a b) C ii false h3 (fun q => by cases q))
  | .not a, W, X, s0, sc, C, s1, tg, tgx, ii, h1, h2, h3 => pi_sq C (snd_e (.not a) C ii false h3 (fun q => by cases q))
  | .ite t a b, W, X, s0, sc, C, s1, tg, tgx, ii, h1, h2, h3 => pi_sq C (snd_e (.ite t a b) C ii false h3 (fun q => by cases q))
  | .tup es, W, X, s0, sc, C, s1, tg, tgx, ii, h1, h2, h3 => pi_sq C (snd_e (.tup es) C ii false h3 (fun q => by cases q))
  | .lst es, W, X, s0, sc, C, s1, tg, tgx, ii, h1, h2, h3 => pi_sq C (snd_e (.lst es) C ii false h3 (fun q => by cases q))
  | .ix a b, W, X, s0, sc, C, s1, tg, tgx, ii, h1, h2, h3 => pi_sq C (snd_e (.ix a b) C ii false h3 (fun q => by cases q))
  | .slc a lo hi, W, X, s0, sc, C, s1, tg, tgx, ii, h1, h2, h3 => pi_sq C (snd_e (.slc a lo hi) C ii false h3 (fun q => by cases q))
  | .rev a, W, X, s0, sc, C, s1, tg, tgx, ii, h1, h2, h3 => pi_sq C (snd_e (.rev a) C ii false h3 (fun q => by cases q))
  | .nop, W, X, s0, sc, C, s1, tg, tgx, ii, h1, h2, h3 => pi_sq C (snd_e .nop C ii false h3 (fun q => by cases q))
  | .call f es, W, X, s0, sc, C, s1, tg, tgx, ii, h1, h2, h3 => pi_sq C (snd_e (.call f es) C ii false h3 (fun q => by cases q))
  | .blt b es, W, X, s0, sc, C, s1, tg, tgx, ii, h1, h2, h3 => pi_sq C (snd_e (.blt b es) C ii false h3 (fun q => by cases q))
  | .isi a t, W, X, s0, sc, C, s1, tg, tgx, ii, h1, h2, h3 => pi_sq C (snd_e (.isi a t) C ii false h3 (fun q => by cases q))
  | .get j k, W, X, s0, sc, C, s1, tg, tgx, ii, h1, h2, h3 => pi_sq C (snd_e (.get j k) C ii false h3 (fun q => by cases q))
  | .get2 j k w, W, X, s0, sc, C, s1, tg, tgx, ii, h1, h2, h3 => pi_sq C (snd_e (.get2 j k w) C ii false h3 (fun q => by cases q))
  | .lc elt2 tg2 it2 cond2 vs2, W, X, s0, sc, C, s1, tg, tgx, ii, h1, h2, h3 => pi_sq C (snd_e (.lc elt2 tg2 it2 cond2 vs2) C ii false h3 (fun q => by cases q))
  | .lcO elt2 tg2 j cond2 vs2, W, X, s0, sc, C, s1, tg, tgx, ii, h1, h2, h3 => pi_sq C (snd_e (.lcO elt2 tg2 j cond2 vs2) C ii false h3 (fun q => by cases q))
  | .lc2 elt2 tg2 it2 cond2 vs2 tg3 it3 cond3 vs3, W, X, s0, sc, C, s1, tg, tgx, ii, h1, h2, h3 => pi_sq C (snd_e (.lc2 elt2 tg2 it2 cond2 vs2 tg3 it3 cond3 vs3) C ii false h3 (fun q => by cases q))
  | .dct ks ws, W, X, s0, sc, C, s1, tg, tgx, ii, h1, h2, h3 => pi_sq C (snd_e (.dct ks ws) C ii false h3 (fun q => by cases q))
  | .lix i k, W, X, s0, sc, C, s1, tg, tgx, ii, h1, h2, h3 => pi_sq C (snd_e (.lix i k) C ii false h3 (fun q => by cases q))
  | .sst e, W, X, s0, sc, C, s1, tg, tgx, ii, h1, h2, h3 => pi_sq C (snd_e (.sst e) C ii false h3 (fun q => by cases q))
  | .lrg t es, W, X, s0, sc, C, s1, tg, tgx, ii, h1, h2, h3 => pi_sq C (snd_e (.lrg t es) C ii false h3 (fun q => by cases q))
termination_by it => (sizeOf it, 3)
theorem snd_s : ∀ (es : Es) {W : XK} {X : Cx} {s0 sc : Scope} (C : Cok G T N call W X s0 sc) (xs : List Expr), mts T N sc es xs = true → PA X xs (tevA G W call es)
  | .nil, W, X, s0, sc, C, xs, h => by
    cases xs with
    | nil => exact PA.imp pa_nil fun σ H Q q => nil_read q
    | cons y ys => unfold mts at h; cases h
  | .cons a b, W, X, s0, sc, C, xs, h => by
    cases xs with
    | nil => unfold mts at h; cases h
    | cons y ys =>
      have h : (plainX y && mt T N false sc a y && mts T N sc b ys) = true := h
      simp only [Bool.and_eq_true] at h
      exact PA.imp (pa_cons (snd_e a C y false h.1.2 (fun q => by cases q)) (snd_s b C ys h.2) (starEach_plain ys X.env h.1.1)) fun σ H Q q => cons_read q
termination_by es => (sizeOf es, 0)
end
end
end Ob

set_option Elab.async false
set_option linter.all false
set_option maxRecDepth 100000
set_option maxHeartbeats 8000000
/-! results where new objects may have come -/
namespace Ob
open PySem PySem.Spec PyProof.Rows L2
theorem Rs.bind_assoc {α β γ : Type} (r : Rs α) (f : α → Ms → Rs β) (g : β → Ms → Rs γ) : (r.bind f).bind g = r.bind fun a M => (f a M).bind g := by
  cases r with
  | none => rfl
  | some q => cases q <;> rfl
abbrev Ext (α β : List Addr) : Prop := ∃ r, β = α ++ r
theorem Ext.refl (α : List Addr) : Ext α α := ⟨[], by simp⟩
theorem Ext.trans {α β γ : List Addr} (a : Ext α β) (b : Ext β γ) : Ext α γ := by
  obtain ⟨r, rfl⟩ := a
  obtain ⟨q, rfl⟩ := b
  exact ⟨r ++ q, by simp⟩
section
variable {G : Gx} {W : XK}
def exS (G : Gx) (W : XK) (x : Xc) (F : Hp) (α : List Addr) (H : Hp) : Prop := ∀ F' α' H', Ext α α' → Same F F' → Rp G F' α' x.M H' → Stp F F' α α' H H' → W (.ref (G.ca x.cls)) none H'
def WpX {β : Type} (G : Gx) (W : XK) (F : Hp) (α : List Addr) (H : Hp) (r : Rs β) (P : Hp → List Addr → Ms → Hp → β → Prop) : Prop := match r with
  | none => False
  | some (.error x) => exS G W x F α H
  | some (.ok (b, M')) => ∀ F' α' H', Ext α α' → Same F F' → Rp G F' α' M' H' → Stp F F' α α' H H' → P F' α' M' H' b
theorem exS.adv {x : Xc} {F F1 H H1 : Hp} {α α1 : List Addr} (g : Ext α α1) (e : Same F F1) (s : Stp F F1 α α1 H H1) (h : exS G W x F α H) : exS G W x F1 α1 H1 :=
  fun F' α' H' g' e' R s' => h F' α' H' (g.trans g') (e.trans e') R (s.trans s')
theorem exS.flat {x : Xc} {F H : Hp} {α : List Addr} (h : exS G W x F α H) : exP G W x F α H := fun F' H' e R s => h F' α H' (Ext.refl _) e R s
variable {β γ : Type}
theorem WpX.adv {F F1 H H1 : Hp} {α α1 : List Addr} {r : Rs β} {P : Hp → List Addr → Ms → Hp → β → Prop} (g : Ext α α1) (e : Same F F1) (s : Stp F F1 α α1 H H1) (h : WpX G W F α H r P) : WpX G W F1 α1 H1 r P := by
  unfold WpX at h ⊢
  cases r with
  | none => exact h
  | some q =>
    cases q with
    | error x => exact exS.adv g e s h
    | ok q => exact fun F' α' H' g' e' R s' => h F' α' H' (g.trans g') (e.trans e') R (s.trans s')
theorem WpX.bind {F H : Hp} {α : List Addr} {r : Rs β} {k : β → Ms → Rs γ} {P : Hp → List Addr → Ms → Hp → γ → Prop} (h : WpX G W F α H (r.bind k) P) : WpX G W F α H r fun F1 α1 M1 H1 b => Ext α α1 ∧ Same F F1 ∧ Rp G F1 α1 M1 H1 ∧ Stp F F1 α α1 H H1 ∧ WpX G W F1 α1 H1 (k b M1) P := by
  cases r with
  | none => exact h
  | some q =>
    cases q with
    | error x => exact h
    | ok q =>
      obtain ⟨b, M1⟩ := q
      exact fun F1 α1 H1 g e R s => ⟨g, e, R, s, WpX.adv g e s h⟩
theorem WpX.imp {F H : Hp} {α : List Addr} {r : Rs β} {P P' : Hp → List Addr → Ms → Hp → β → Prop} (h : WpX G W F α H r P) (i : ∀ F' α' M' H' b, P F' α' M' H' b → P' F' α' M' H' b) : WpX G W F α H r P' := by
  cases r with
  | none => exact h
  | some q =>
    cases q with
    | error x => exact h
    | ok q => exact fun F1 α1 H1 g e R s => i _ _ _ _ _ (h F1 α1 H1 g e R s)
theorem WpX.done {F H : Hp} {α : List Addr} {M : Ms} {b : β} {P : Hp → List Addr → Ms → Hp → β → Prop} (h : WpX G W F α H (Rs.ok b M) P) (R : Rp G F α M H) : P F α M H b := h F α H (Ext.refl _) (Same.refl _) R (Stp.refl _ _ _)
variable {call : Nat → List D → Ms → Rs D}
theorem tev_stepX {e : E} {k : D → Ms → Rs β} {F : Hp} {α : List Addr} {ρ : Rho} {M : Ms} {σ : L2.St} {H : Hp} {P : Hp → List Addr → Ms → Hp → β → Prop} {Q' : VK} (h : WpX G W F α H ((ev call e ρ M).bind k) P) (R : Rp G F α M H) (S : Sl G F α ρ σ)
    (f : ∀ d M1 F1 v H1, Same F F1 → Stp F F1 α α H H1 → Rp G F1 α M1 H1 → Sl G F1 α ρ σ → RV G F1 α d v → WpX G W F1 α H1 (k d M1) P → Q' v H1) : tev G W call false e σ H Q' := by
  refine ⟨F, α, ρ, M, R, S, ?_⟩
  cases eq : ev call e ρ M with
  | none => rw [eq] at h; exact h
  | some q =>
    rw [eq] at h
    cases q with
    | error x => exact exS.flat h
    | ok q =>
      obtain ⟨d, M1⟩ := q
      exact fun F1 v H1 e1 R1 s1 rv => f d M1 F1 v H1 e1 s1 R1 (S.mono e1) rv (WpX.adv (Ext.refl _) e1 s1 h)
theorem tevT_stepX {e : E} {k1 k0 : Ms → Rs β} {F : Hp} {α : List Addr} {ρ : Rho} {M : Ms} {σ : L2.St} {H : Hp} {P : Hp → List Addr → Ms → Hp → β → Prop} {Q' : Bool → Hp → Prop}
    (h : WpX G W F α H ((ev call e ρ M).bind fun x M1 => match x with
      | .d (.bool true) => k1 M1
      | .d (.bool false) => k0 M1
      | _ => none) P) (R : Rp G F α M H) (S : Sl G F α ρ σ)
    (f : ∀ b M1 F1 H1, Same F F1 → Stp F F1 α α H H1 → Rp G F1 α M1 H1 → Sl G F1 α ρ σ → WpX G W F1 α H1 (if b = true then k1 M1 else k0 M1) P → Q' b H1) : tevT G W call e σ H Q' := by
  refine tev_stepX h R S fun d M1 F1 v H1 e1 st R1 S1 rv h1 => ?_
  split at h1
  · exact ⟨true, rv_bool rv, f true M1 F1 H1 e1 st R1 S1 h1⟩
  · exact ⟨false, rv_bool rv, f false M1 F1 H1 e1 st R1 S1 h1⟩
  · exact h1.elim
/-- a new object among the written ones -/
theorem Rp.lay {F H : Hp} {α : List Addr} {M : Ms} (R : Rp G F α M H) {p : Addr} {mo : MO} (hp : p ∉ α) (hf : F p = none) (ok : MoOk G F H p mo) : Rp G F (α ++ [p]) (M ++ [mo]) H := by
  refine ⟨R.sub, by simp [R.len], ?_, fun a ha => ?_, fun n a m h1 h2 => ?_⟩
  · rw [List.nodup_append]
    refine ⟨R.nd, by simp, fun a ha b hb => ?_⟩
    have e : b = p := by simpa using hb
    subst e
    exact fun q => hp (q ▸ ha)
  · have : a ∈ α ∨ a = p := by simpa using ha
    rcases this with z | z
    · exact R.off a z
    · subst z; exact hf
  · by_cases hn : n < α.length
    · rw [List.getElem?_append_left hn] at h1
      rw [List.getElem?_append_left (by rw [← R.len]; exact hn)] at h2
      exact R.ok n a m h1 h2
    · rw [List.getElem?_append_right (by omega)] at h1
      rw [List.getElem?_append_right (by rw [← R.len]; omega), ← R.len] at h2
      have e0 : n - α.length = 0 := by
        have := (List.getElem?_eq_some_iff.mp h1).1
        simp at this
        omega
      rw [e0] at h1 h2
      simp at h1 h2
      subst h1 h2
      exact ok
theorem Stp.lay {F F' : Hp} {α : List Addr} {H H' : Hp} {p : Addr} (s : Stp F F' α α H H') (hp : H p = none) : Stp F F' α (α ++ [p]) H H' := by
  refine ⟨fun b o h n => ⟨(s.un b o h n).1, ?_⟩, s.ff, s.fz⟩
  have : b ≠ p := ne_of_none h hp
  simp [n, this]
theorem key_dq {F : Hp} {p : PyData} {q : Key} {y : V} (hy : Dq F y p) (e : keyOf p = some q) : y = kV q := by
  cases hy <;> simp [keyOf] at e <;> subst e <;> rfl
theorem store_ok {κ : Type} [DecidableEq κ] {F : Hp} {ws : List (κ × V)} {kvs : List (κ × PyData)} (h : KvOk G F ws kvs) {k : κ} {v : V} {x : PyData} (r : Dq F v x) : KvOk G F (putK ws k v) (store kvs k x) := by
  have hany : (ws.any fun kv => decide (kv.1 = k)) = (kvs.any fun kv => decide (kv.1 = k)) := by
    induction h with
    | nil => rfl
    | cons a b ih => rw [List.any_cons, List.any_cons, ih, a.1]
  unfold putK store
  rw [hany]
  split
  · clear hany
    rename_i c
    clear c
    induction h with
    | nil => exact .nil
    | @cons w kv ws kvs a b ih =>
      rw [List.map_cons, List.map_cons]
      refine .cons ?_ ih
      by_cases c : w.1 = k
      · rw [if_pos c, if_pos (by rw [← a.1]; exact c)]
        exact ⟨a.1, r⟩
      · rw [if_neg c, if_neg (by rw [← a.1]; exact c)]
        exact a
  · clear hany
    rename_i c
    clear c
    induction h with
    | nil => exact .cons ⟨rfl, r⟩ .nil
    | cons a b ih => exact .cons a ih
theorem merges_ok {κ : Type} [DecidableEq κ] {F : Hp} : ∀ {ms : List (κ × V)} {mvs : List (κ × PyData)} {ws : List (κ × V)} {kvs : List (κ × PyData)}, KvOk G F ms mvs → KvOk G F ws kvs → KvOk G F (ms.foldl (fun acc kv => putK acc kv.1 kv.2) ws) (merges kvs mvs)
  | _, _, _, _, .nil, h => h
  | (k, v) :: ms, (k', x) :: mvs, ws, kvs, .cons a b, h => by
    obtain ⟨e, r⟩ := a
    have e : k = k' := e
    subst e
    rw [List.foldl_cons, merges]
    exact merges_ok b (store_ok h r)
/-- what dict(pairs) asks -/
def rDP (K : PySem.W.Frag) : List V → Hp → VK → Prop := fun xs H Q => ∃ (a : Addr) (ps : List Addr) (kvs : List (Key × V)), xs = [.ref a] ∧ SqL K H a (ps.map V.ref) ∧ Paired (fun p kv => SqT K H p [kV kv.1, kv.2]) ps kvs ∧
    ∀ p, H p = none → Q (.ref p) (upd H p (.dK (mergeK [] kvs)))
theorem pairs_ok {K : PySem.W.Frag} {F H : Hp} (e : Same F H) : ∀ {ps : List PyData} {vs : List V} {kvs : List (Key × PyData)}, DqAll F vs ps → pairsK ps = some kvs → ∃ (as : List Addr) (ws : List (Key × V)), vs = as.map V.ref ∧ Paired (fun p kv => SqT K H p [kV kv.1, kv.2]) as ws ∧ KvOk G F ws kvs
  | [], _, _, .nil, h => by
    simp [pairsK] at h
    subst h
    exact ⟨[], [], rfl, .nil, .nil⟩
  | p :: ps, v :: vs, kvs, .cons g gs, h => by
    unfold pairsK at h
    split at h
    · rename_i heq
      cases heq
    · rename_i k x r heq
      cases heq
      split at h
      · rename_i k' r' hk hr
        cases h
        obtain ⟨as, ws, rfl, hp, hw⟩ := pairs_ok e gs hr
        cases g with
        | @tup b xs _ hb gx =>
          cases gx with
          | cons g1 g2 =>
            cases g2 with
            | cons g2 g3 =>
              cases g3
              have := key_dq g1 hk
              subst this
              exact ⟨b :: as, (k', _) :: ws, rfl, .cons (.inl (.inl (e _ _ hb))) hp, .cons ⟨rfl, g2⟩ hw⟩
      · cases h
    · cases h
theorem Rp.setH {F H : Hp} {α : List Addr} {M : Ms} (R : Rp G F α M H) {p : Addr} {o : HO} (hp : p ∉ α) (hf : F p = none) : Rp G F α M (upd H p o) := by
  refine ⟨fun b u e => ?_, R.len, R.nd, R.off, fun n a m h1 h2 => ?_⟩
  · have : b ≠ p := fun z => by rw [z, hf] at e; cases e
    rw [upd_ne this]; exact R.sub b u e
  · have : a ≠ p := fun z => hp (z ▸ List.mem_of_getElem? h1)
    exact (R.ok n a m h1 h2).mono (Same.refl _) fun u z => by rw [upd_ne this]; exact z
def layS (x y : D) (M : Ms) : Option (D × Ms) := match x, y with
  | .d k, .d v => (keyOf k).map fun k => (.own M.length, M ++ [.dK [(k, v)]])
  | _, _ => none
def rsO (o : Option (D × Ms)) : Rs D := match o with
  | some (y, M2) => Rs.ok y M2
  | none => none
theorem evM_s {a b : E} {ρ : Rho} {M : Ms} : evM call .s (.tup (.cons a (.cons b .nil))) ρ M = (ev call a ρ M).bind fun x M1 => (ev call b ρ M1).bind fun y M2 => rsO (layS x y M2) := by
  unfold evM
  rw [ev, evs]
  simp only [Rs.bind_assoc]
  congr 1
  funext x M1
  rw [evs]
  simp only [Rs.bind_assoc]
  congr 1
  funext y M2
  rw [evs]
  cases x with
  | d x => cases y with
    | d y => rfl
    | _ => rfl
  | _ => cases y <;> rfl
/-- a value's reading, and what it was -/
theorem tev_stepE {e : E} {k : D → Ms → Rs β} {F : Hp} {α : List Addr} {ρ : Rho} {M : Ms} {σ : L2.St} {H : Hp} {P : Hp → List Addr → Ms → Hp → β → Prop} {Q' : VK} (h : WpX G W F α H ((ev call e ρ M).bind k) P) (R : Rp G F α M H) (S : Sl G F α ρ σ)
    (f : ∀ d M1 F1 v H1, ev call e ρ M = Rs.ok d M1 → Same F F1 → Stp F F1 α α H H1 → Rp G F1 α M1 H1 → Sl G F1 α ρ σ → RV G F1 α d v → Q' v H1) : tev G W call false e σ H Q' := by
  refine ⟨F, α, ρ, M, R, S, ?_⟩
  cases eq : ev call e ρ M with
  | none => rw [eq] at h; exact h
  | some q =>
    rw [eq] at h
    cases q with
    | error x => exact exS.flat h
    | ok q =>
      obtain ⟨d, M1⟩ := q
      exact fun F1 v H1 e1 R1 s1 rv => f d M1 F1 v H1 eq e1 s1 R1 (S.mono e1) rv
def tevM (G : Gx) (W : XK) (call : Nat → List D → Ms → Rs D) (m : Md) (e : E) : TE := match m with
  | .v => tev G W call false e
  | .l => tev G W call true e
  | .k => tDNewK
  | .t => tDNewT
  | .p => tCB (rDP G.K) (tCons (tev G W call false e) tNil)
  | .s => match e with
    | .tup (.cons a (.cons b .nil)) => tDisp [(tev G W call false a, tev G W call false b)]
    | _ => fun _ _ _ => True
def okM (m : Md) (e : E) : Prop := (m = .k ∨ m = .t) → e = .dct .nil .nil
theorem tevM_stepX {m : Md} {e : E} (ok : okM m e) {k : D → Ms → Rs β} {F : Hp} {α : List Addr} {ρ : Rho} {M : Ms} {σ : L2.St} {H : Hp} {P : Hp → List Addr → Ms → Hp → β → Prop} {Q' : VK} (h : WpX G W F α H ((evM call m e ρ M).bind k) P) (R : Rp G F α M H) (S : Sl G F α ρ σ)
    (f : ∀ d M1 F1 α1 v H1, Ext α α1 → Same F F1 → Stp F F1 α α1 H H1 → Rp G F1 α1 M1 H1 → Sl G F1 α1 ρ σ → RV G F1 α1 d v → WpX G W F1 α1 H1 (k d M1) P → Q' v H1) : tevM G W call m e σ H Q' := by
  have dk : ∀ (mo : MO) (o : HO), (∀ (H' : Hp) p, MoOk G F (upd H p o) p mo) → WpX G W F α H (k (.own M.length) (M ++ [mo])) P → ∀ p, H p = none → Q' (.ref p) (upd H p o) := by
    intro mo o hmo h p hp
    have st : Stp F F α (α ++ [p]) H (upd H p o) := (Stp.updH hp).lay hp
    have R1 : Rp G F (α ++ [p]) (M ++ [mo]) (upd H p o) := (R.newH hp).lay (R.notin hp) (R.free hp) (hmo H p)
    exact f (.own M.length) _ F (α ++ [p]) _ _ ⟨[p], rfl⟩ (Same.refl _) st R1 (S.grow ⟨[p], rfl⟩) ⟨p, by rw [← R.len]; simp, rfl⟩ (WpX.adv ⟨[p], rfl⟩ (Same.refl _) st h)
  cases m with
  | v =>
    have z : evM call .v e ρ M = ev call e ρ M := by
      unfold evM
      cases ev call e ρ M with
      | none => rfl
      | some q => cases q <;> rfl
    rw [z] at h
    exact tev_stepX h R S fun d M1 F1 v H1 e1 s1 R1 S1 rv h1 => f d M1 F1 α v H1 (Ext.refl _) e1 s1 R1 S1 rv h1
  | l =>
    refine ⟨F, α, ρ, M, R, S, ?_⟩
    unfold evM at h
    cases eq : ev call e ρ M with
    | none => rw [eq] at h; exact h
    | some q =>
      rw [eq] at h
      cases q with
      | error x => exact exS.flat h
      | ok q =>
        obtain ⟨d, M1⟩ := q
        have h : WpX G W F α H ((match layM .l d M1 with
          | some (y, M2) => Rs.ok y M2
          | none => none).bind k) P := h
        cases el : layM .l d M1 with
        | none => rw [el] at h; exact h.elim
        | some q =>
          obtain ⟨y, M2⟩ := q
          rw [el] at h
          have h : WpX G W F α H (k y M2) P := h
          unfold layM at el
          split at el
          · rename_i hm; cases hm
          · rename_i xs _
            cases el
            refine ⟨xs, rfl, fun F' p vs H' e1 R1 s1 hp hl hf g => ?_⟩
            have hpa := R.notin hp
            have R2 := R1.lay hpa hf (mo := .lst xs) ⟨vs, hl, g⟩
            have s2 := s1.lay hp
            exact f (.own M1.length) _ F' (α ++ [p]) _ H' ⟨[p], rfl⟩ e1 s2 R2 ((S.mono e1).grow ⟨[p], rfl⟩) ⟨p, by rw [← R1.len]; simp, rfl⟩ (WpX.adv ⟨[p], rfl⟩ e1 s2 h)
          · rename_i hm; cases hm
          · rename_i hm; cases hm
          · rename_i hm; cases hm
          · rename_i hm; cases hm
          · cases el
  | k =>
    obtain rfl := ok (.inl rfl)
    unfold evM at h
    rw [ev, evs] at h
    have h : WpX G W F α H (k (.own M.length) (M ++ [.dK []])) P := h
    exact fun p hp => dk (.dK []) (.dK []) (fun H' p => ⟨[], upd_same, .nil⟩) h p hp
  | t =>
    obtain rfl := ok (.inr rfl)
    unfold evM at h
    rw [ev, evs] at h
    have h : WpX G W F α H (k (.own M.length) (M ++ [.dT []])) P := h
    exact fun p hp => dk (.dT []) (.dT []) (fun H' p => ⟨[], upd_same, .nil⟩) h p hp
  | p =>
    unfold evM at h
    rw [Rs.bind_assoc] at h
    refine tev_stepX h R S fun d M1 F1 v H1 e1 s1 R1 S1 rv h1 => ?_
    have h1 : WpX G W F1 α H1 ((match layM .p d M1 with
      | some (y, M2) => Rs.ok y M2
      | none => none).bind k) P := h1
    cases el : layM .p d M1 with
    | none => rw [el] at h1; exact h1.elim
    | some q =>
      obtain ⟨y, M2⟩ := q
      rw [el] at h1
      have h1 : WpX G W F1 α H1 (k y M2) P := h1
      unfold layM at el
      split at el
      · rename_i hm; cases hm
      · rename_i hm; cases hm
      · rename_i hm; cases hm
      · rename_i hm; cases hm
      · rename_i hm; cases hm
      · rename_i ps _
        obtain ⟨kvs, ek, el⟩ := Option.map_eq_some_iff.mp el
        cases el
        cases rv with
        | @lst a xs _ ha g =>
          obtain ⟨as, ws, rfl, hp, hw⟩ := pairs_ok (G := G) (K := G.K) R1.sub g ek
          refine ⟨a, as, ws, rfl, .inl (.inl (R1.sub _ _ ha)), hp, fun p hpn => ?_⟩
          have hmo : MoOk G F1 (upd H1 p (.dK (mergeK [] ws))) p (.dK (merges [] kvs)) := ⟨mergeK [] ws, upd_same, merges_ok hw .nil⟩
          have st : Stp F1 F1 α (α ++ [p]) H1 (upd H1 p (.dK (mergeK [] ws))) := (Stp.updH hpn).lay hpn
          have R2 : Rp G F1 (α ++ [p]) (M1 ++ [.dK (merges [] kvs)]) (upd H1 p (.dK (mergeK [] ws))) := (R1.newH hpn).lay (R1.notin hpn) (R1.free hpn) hmo
          exact f (.own M1.length) _ F1 (α ++ [p]) _ _ ⟨[p], rfl⟩ e1 (s1.trans st) R2 (S1.grow ⟨[p], rfl⟩) ⟨p, by rw [← R1.len]; simp, rfl⟩ (WpX.adv ⟨[p], rfl⟩ (Same.refl _) st h1)
      · cases el
  | s =>
    unfold tevM
    split
    · rename_i a b
      rw [evM_s, Rs.bind_assoc] at h
      intro p hp
      have st0 : Stp F F α α H (upd H p (.dK [])) := Stp.updH hp
      refine tev_stepE (WpX.adv (Ext.refl _) (Same.refl _) st0 h) (R.newH hp) S fun d1 M1 F1 v1 H1 q1 e1 s1 R1 S1 r1 => ?_
      rw [q1] at h
      have h : WpX G W F α H (((ev call b ρ M1).bind fun y M2 => rsO (layS d1 y M2)).bind k) P := h
      rw [Rs.bind_assoc] at h
      refine tev_stepE (WpX.adv (Ext.refl _) e1 (st0.trans s1) h) R1 S1 fun d2 M2 F2 v2 H2 q2 e2 s2 R2 S2 r2 => ?_
      rw [q2] at h
      have h : WpX G W F α H ((rsO (layS d1 d2 M2)).bind k) P := h
      have s12 := s1.trans s2
      have hpa := R.notin hp
      have hp2 := (s12.un p _ upd_same hpa).1
      have hf2 : F2 p = none := (s12.ff p _ upd_same rfl hpa).trans (R.free hp)
      cases el : layS d1 d2 M2 with
      | none => rw [el] at h; exact h.elim
      | some q =>
        rw [el] at h
        unfold layS at el
        split at el
        · rename_i y x
          obtain ⟨k', hk, el⟩ := Option.map_eq_some_iff.mp el
          cases el
          have hk2 := key_dq r1 hk
          have hmo : MoOk G F2 (upd H2 p (.dK (mergeK [] [(k', v2)]))) p (.dK [(k', y)]) := ⟨_, upd_same, .cons ⟨rfl, r2⟩ .nil⟩
          have R3 : Rp G F2 (α ++ [p]) (M2 ++ [.dK [(k', y)]]) (upd H2 p (.dK (mergeK [] [(k', v2)]))) := (R2.setH hpa hf2).lay hpa hf2 hmo
          rw [hk2]
          refine ⟨hp2, [(k', v2)], rfl, by simp, ?_⟩
          have st4 : Stp F F2 α (α ++ [p]) H (upd H2 p (.dK (mergeK [] [(k', v2)]))) := by
            refine ⟨fun b o hb hn => ?_, fun b o hb ht hn => ?_, fun b o u hb => ?_⟩
            · have hbp := ne_of_none hb hp
              have z := (s12.un b o (by rw [upd_ne hbp]; exact hb) hn).1
              exact ⟨by rw [upd_ne hbp]; exact z, by simp [hn, hbp]⟩
            · have hbp := ne_of_none hb hp
              exact s12.ff b o (by rw [upd_ne hbp]; exact hb) ht hn
            · have hbp := ne_of_none hb hp
              have z := s12.fz b o u (by rw [upd_ne hbp]; exact hb)
              rw [upd_ne hbp]; exact z
          exact f (.own M2.length) _ F2 (α ++ [p]) _ _ ⟨[p], rfl⟩ (e1.trans e2) st4 R3 (S2.grow ⟨[p], rfl⟩) ⟨p, by rw [← R2.len]; simp, rfl⟩ (WpX.adv ⟨[p], rfl⟩ (e1.trans e2) st4 h)
        · cases el
    · exact trivial
/-! ### flows -/
def PF (G : Gx) (Dn : Ends) : Hp → List Addr → Ms → Hp → Fl × Rho → Prop := fun F' α' _ H' f => match f with
  | (.nx, ρ') => ∀ σ', Sl G F' α' ρ' σ' → Dn.nx σ' H'
  | (.bk, ρ') => ∀ σ', Sl G F' α' ρ' σ' → Dn.bk σ' H'
  | (.ct, ρ') => ∀ σ', Sl G F' α' ρ' σ' → Dn.ct σ' H'
  | (.rt d, _) => ∀ v, RV G F' α' d v → Dn.rt v H'
def tevS (G : Gx) (W : XK) (call : Nat → List D → Ms → Rs D) (wf : Nat) (s : S) : TS := fun Dn σ H => ∃ F α ρ M, Rp G F α M H ∧ Sl G F α ρ σ ∧ WpX G W F α H (evS call wf s ρ M) (PF G Dn)
def tevSs (G : Gx) (W : XK) (call : Nat → List D → Ms → Rs D) (wf : Nat) (s : Ss) : TS := fun Dn σ H => ∃ F α ρ M, Rp G F α M H ∧ Sl G F α ρ σ ∧ WpX G W F α H (evSs call wf s ρ M) (PF G Dn)
end
end Ob

set_option Elab.async false
set_option linter.all false
set_option maxRecDepth 100000
set_option maxHeartbeats 8000000
/-! statements: the check, and what it tells -/
namespace Ob
open PySem PySem.Spec PyProof.Rows L2
def compScope : Expr → Option Scope
  | .ListComp _ _ s _ => some s
  | .SetComp _ _ s _ => some s
  | .DictComp _ _ _ s _ => some s
  | _ => none
/-- a comprehension's value exchanged with a name -/
def swB (sc : Scope) (tg v : Expr) : Bool := match compScope v with
  | none => false
  | some scope => match tg with
    | .Name t pos => sc.names.lookup t == some .local && pos.line == v.pos.line && !(scope.names.any fun (n, k) => n == t && (k == .local || k == .cell))
    | _ => false
theorem swB_ok {env : Env} {sc : Scope} (h : env.scope = sc) (hk : sc.kind = .function) (tg v : Expr) (line : Nat) : swapsWith v (some tg) line env = pure (swB sc tg v) := by
  have hb : env.blockKind = .function := by unfold Env.blockKind; rw [h, hk]; rfl
  unfold swapsWith swB
  cases v <;> first
    | rfl
    | (cases tg <;> first
        | rfl
        | (simp only [compScope, hb, Env.kindOf, h]; rfl))
def isStar : Expr → Bool
  | .Starred .. => true
  | _ => false
/-- the names that a tuple's parts are stored in from the right; none: nothing is told -/
def stB (sc : Scope) (tg v : Expr) : Option (Option (List Str)) := match tg with
  | .Tuple ts _ _ => match v with
    | .Tuple vs _ _ =>
      if (!(ts.length == 2 || ts.length == 3) || vs.length != ts.length) = true then some none
      else if (vs.any isStar) = true then some none
      else
        let line := (ts.head?.map (·.pos.line)).getD 0
        let names := ts.filterMap fun
          | .Name id pos => if sc.names.lookup id == some .local && pos.line == line then some id else none
          | _ => none
        if (names.length != ts.length || names.eraseDups.length != names.length) = true then some none
        else if (vs.all (foldedForSure 8)) = true then some none
        else if (vs.all (constantsAlone 8)) = true then none
        else some (some names)
    | _ => some none
  | .Name .. => some none
  | .Subscript .. => some none
  | _ => none
theorem stB_ok {env : Env} {sc : Scope} (h : env.scope = sc) (hk : sc.kind = .function) {tg v : Expr} {r : Option (List Str)} (e : stB sc tg v = some r) : swappedStores [tg] v env = pure r := by
  have hb : env.blockKind = .function := by unfold Env.blockKind; rw [h, hk]; rfl
  unfold stB at e
  split at e
  · rename_i ts k p
    split at e
    · rename_i vs k2 p2
      have hs : (vs.any fun | .Starred .. => true | _ => false) = vs.any isStar := rfl
      unfold swappedStores
      simp only [hb, Env.kindOf, h]
      have h0 : ((!(ts.length == 2 || ts.length == 3) || vs.length != ts.length) || (ScopeKind.function != ScopeKind.function)) = (!(ts.length == 2 || ts.length == 3) || vs.length != ts.length) := by
        have : (ScopeKind.function != ScopeKind.function) = false := rfl
        rw [this, Bool.or_false]
      rw [h0]
      split at e
      · rename_i c
        cases e
        rw [if_pos c]
      · rename_i c
        rw [if_neg c]
        split at e
        · rename_i c2
          cases e
          exact if_pos c2
        · rename_i c2
          refine Eq.trans (if_neg c2) ?_
          simp only [] at e
          split at e
          · rename_i c3
            cases e
            exact if_pos c3
          · rename_i c3
            refine Eq.trans (if_neg c3) ?_
            split at e
            · rename_i c4
              cases e
              exact if_pos c4
            · rename_i c4
              refine Eq.trans (if_neg c4) ?_
              split at e
              · cases e
              · rename_i c5
                cases e
                exact if_neg c5
    · rename_i hv
      cases e
      unfold swappedStores
      cases v <;> first | rfl | exact absurd rfl (hv _ _ _)
  · cases e
    rfl
  · cases e
    rfl
  · cases e
def isLc : E → Bool
  | .lc _ _ _ _ _ => true
  | .lc2 _ _ _ _ _ _ _ _ _ => true
  | _ => false
def notComp (x : Expr) : Bool := (compScope x).isNone
theorem notComp_ok {x : Expr} (h : notComp x = true) (env : Env) (line : Nat) : swapsWith x none line env = pure false := by
  unfold swapsWith
  cases x <;> first | rfl | cases h
section
variable (T : Tab) (N : List Str) (sc : Scope)
def mtM (m : Md) (e : E) (x : Expr) : Bool := match m with
  | .v => mt T N false sc e x
  | .l => frs T e && mt T N false sc e x
  | .p => match vCall x with
    | some (n, _, [y], _) => decide (n = "dict") && glB sc n && okN n && plainX y && mt T N false sc e y
    | _ => false
  | .s => match e, x with
    | .tup (.cons a (.cons b .nil)), .Dict [some ka] [vb] _ => mt T N false sc a ka && mt T N false sc b vb
    | _, _ => false
  | _ => match e with
    | .dct .nil .nil => match x with
      | .Dict [] [] _ => true
      | _ => false
    | _ => false
def mtSet (i : Nat) (m : Md) (e : E) (t v : Expr) : Bool := match vName t with
  | some (n, _) => decide (N[i]? = some n) && locB sc n && mtM T N sc m e v && (!swB sc t v || (isLc e && decide (sc.names.lookup n = some .local)))
  | none => false
def mtPar : List (Nat × Md) → Es → List Expr → List Expr → Bool
  | [], .nil, [], [] => true
  | (i, m) :: is, .cons e es, t :: ts, v :: vs => (match vName t with
    | some (n, _) => decide (N[i]? = some n) && locB sc n
    | none => false) && plainX v && mtM T N sc m e v && mtPar is es ts vs
  | _, _, _, _ => false
def tgNames (ts : List Expr) : List Str := ts.filterMap fun t => (vName t).map (·.1)
mutual
def mtS : S → Stmt → Bool
  | .asg tg e, st => match st with
    | .Assign [t] v _ => match tg with
      | .nm i => mtSet T N sc i .v e t v
      | .tp ts => decide (stB sc t v = some none) && mtTg N sc (.tp ts) t && mt T N false sc e v
    | _ => false
  | .new i m e, st => match st with
    | .Assign [t] v _ => mtSet T N sc i m e t v
    | _ => false
  | .par is es, st => match st with
    | .Assign [.Tuple ts k p] (.Tuple vs k2 p2) _ => mtPar T N sc is es ts vs && line is.length && match stB sc (.Tuple ts k p) (.Tuple vs k2 p2) with
      | some none => true
      | some (some names) => decide (ts.length ≤ 3) && decide (2 ≤ ts.length) && decide (is.map (·.1)).Nodup && decide (names = tgNames ts) && (tgNames ts).all fun n => decide (sc.names.lookup n = some .local)
      | none => false
    | _ => false
  | .put i k v, st => match st with
    | .Assign [.Subscript (.Name n _) kx _] vx _ => slotB sc N i n && plainX kx && mt T N false sc k kx && mt T N false sc v vx
    | _ => false
  | .aug i op e, st => match st with
    | .AugAssign (.Name n _) o vx _ => decide (op = o) && decide (N[i]? = some n) && locB sc n && mt T N false sc e vx
    | _ => false
  | .app i e, st => match st with
    | .Expr x _ => match vMeth x with
      | some (n, _, m, q, [l], pos) => slotB sc N i n && decide (m = "append") && (q.endLine == pos.line) && plainX l && mt T N false sc e l
      | _ => false
    | _ => false
  | .ex e, st => match st with
    | .Expr x _ => notComp x && mt T N false sc e x
    | _ => false
  | .ifs t a b, st => match st with
    | .If c A B _ => (tstX c || isTst t) && mt T N false sc t c && mtSs a A && mtSs b B
    | _ => false
  | .fors tg it b, st => match st with
    | .For t i body [] _ => itTg it tg && plainX i && mt T N (isIt it) sc it i && mtTg N sc tg t && mtSs b body
    | _ => false
  | .forO tg j b, st => match st with
    | .For t i body [] _ => plainX i && (match vName i with
      | some (n, _) => slotB sc N j n
      | none => false) && mtTg N sc tg t && mtSs b body
    | _ => false
  | .whl t b, st => match st with
    | .While c body [] _ => (tstX c || isTst t) && mt T N false sc t c && mtSs b body
    | _ => false
  | .ret e, st => match st with
    | .Return (some x) _ => mt T N false sc e x
    | _ => false
  | .retL e, st => match st with
    | .Return (some x) _ => mtM T N sc .l e x
    | _ => false
  | .ret0, st => match st with
    | .Return none _ => true
    | _ => false
  | .brk, st => match st with
    | .Break _ => true
    | _ => false
  | .cont, st => match st with
    | .Continue _ => true
    | _ => false
  | .pass, st => match st with
    | .Pass _ => true
    | .Expr (.Constant (.str _) _ _) _ => true
    | _ => false
  | .rais _, _ => false
  | .nev, _ => true
def mtSs : Ss → List Stmt → Bool
  | .nil, sts => sts.isEmpty
  | .cons a b, sts => match sts with
    | st :: sts => mtS a st && mtSs b sts
    | [] => false
end
end
end Ob

set_option Elab.async false
set_option linter.all false
set_option maxRecDepth 100000
set_option maxHeartbeats 8000000
/-! statements: soundness -/
namespace Ob
open PySem PySem.Spec PyProof.Rows L2
section
variable {G : Gx} {T : Tab} {N : List Str} {call : Nat → List D → Ms → Rs D} {W : XK} {X : Cx} {s0 sc : Scope}
theorem PS.imp {e : Stmt} {t t' : TS} (h : PS X e t) (i : ∀ D σ H, t' D σ H → t D σ H) : PS X e t' := ⟨fun pins s σ H D I q => h.run pins s σ H D I (i D σ H q)⟩
theorem PSs.imp {e : List Stmt} {t t' : TS} (h : PSs X e t) (i : ∀ D σ H, t' D σ H → t D σ H) : PSs X e t' := ⟨fun pins s σ H D I q => h.run pins s σ H D I (i D σ H q)⟩
theorem keys_of {F : Hp} : ∀ {ps : List PyData} {qs : List Key} {ys : List V}, DqAll F ys ps → keysOf ps = some qs → ys = qs.map kV
  | _, _, _, .nil, e => by simp [keysOf] at e; subst e; rfl
  | _, _, _, .cons h1 h2, e => by
    unfold keysOf at e
    split at e
    · rename_i a b ea eb
      cases e
      rw [key_dq h1 ea, keys_of h2 eb]; rfl
    · cases e
theorem keyT_dq {F : Hp} {p : PyData} {q : List Key} {y : V} (hy : Dq F y p) (e : keyT p = some q) : ∃ b, y = .ref b ∧ F b = some (.tup (q.map kV)) := by
  cases hy <;> simp [keyT] at e
  rename_i a xs ds hf g
  exact ⟨a, rfl, by rw [← keys_of g e]; exact hf⟩
/-- an object that is written -/
theorem Stp.setM {F H : Hp} {α : List Addr} {a : Addr} {u o : HO} (ha : a ∈ α) (hu : H a = some u) (mu : L2.Mut (some u)) : Stp F F α α H (L2.upd H a o) := by
  refine ⟨fun b q hb hn => ⟨?_, hn⟩, fun _ _ _ _ _ => rfl, fun b q w hb => ?_⟩
  · have : b ≠ a := fun z => hn (z ▸ ha)
    rw [upd_ne this]; exact hb
  · have : b ≠ a := fun z => by subst z; rw [hu] at hb; cases hb; exact mu
    rw [upd_ne this]; exact hb
/-! ### o[k] = v -/
def rPut (o y v : V) (H : Hp) (Q : Hp → Prop) : Prop := rSetL o y v H Q ∨ ∃ a H', o = .ref a ∧ DPut H a y v H' ∧ Q H'
theorem ps_putO (hu : X.A.units + 1 < cLine) : PSet X rPut := by
  intro pins s σ H o i v ov iv u Q I ro ri rv h
  rcases h with h | ⟨a, H', rfl, g, q⟩
  · exact set_list pins s σ H o i v ov iv u Q I ro ri rv h
  · cases ro
    exact d_setItem hu I g ri rv fun s' I' => ⟨H', I', q⟩
theorem put_ok {F H : Hp} {α : List Addr} {M M4 : Ms} {o : D} {y z : PyData} {ov yv zv : V} {Q : Hp → Prop} (R : Rp G F α M H) (ro : RV G F α o ov) (ry : Dq F yv y) (rz : Dq F zv z) (h : putM M o y z = some M4)
    (q : ∀ H', Rp G F α M4 H' → Stp F F α α H H' → Q H') : rPut ov yv zv H Q := by
  cases o with
  | own n =>
    obtain ⟨a, ha, rfl⟩ := ro
    have hα : a ∈ α := List.mem_of_getElem? ha
    simp only [putM] at h
    cases hm : M[n]? with
    | none => rw [hm] at h; cases h
    | some mo =>
      have hok := R.ok n a mo ha hm
      rw [hm] at h
      cases mo with
      | lst xs =>
        obtain ⟨vs, e, g⟩ := hok
        simp only [] at h
        split at h
        · rename_i i
          obtain ⟨j, hj, rfl⟩ := Option.map_eq_some_iff.mp h
          cases ry
          refine .inl ⟨a, vs, i, j, rfl, rfl, e, by rw [DqAll.length g]; exact hj, q _ (R.setM ha ⟨_, upd_same, DqAll.set rz j g⟩) (Stp.setM hα e trivial)⟩
        · cases h
      | dK kvs =>
        obtain ⟨ws, e, g⟩ := hok
        simp only [] at h
        split at h
        · rename_i k hk
          split at h
          · rename_i hl
            cases h
            have hy := key_dq ry hk
            subst hy
            have hlen : ws.length < sizeLine := by have := line_le hl; have := Paired.length g; omega
            exact .inr ⟨a, _, rfl, DPut.k e hlen, q _ (R.setM ha ⟨_, upd_same, store_ok g rz⟩) (Stp.setM hα e trivial)⟩
          · cases h
        · cases h
      | dT kvs =>
        obtain ⟨ws, e, g⟩ := hok
        simp only [] at h
        split at h
        · rename_i k hk
          split at h
          · rename_i hl
            cases h
            obtain ⟨b, rfl, hb⟩ := keyT_dq ry hk
            have hlen : ws.length < sizeLine := by have := line_le hl; have := Paired.length g; omega
            exact .inr ⟨a, _, rfl, .inr ⟨ws, k, b, e, rfl, R.sub _ _ hb, hlen, rfl⟩, q _ (R.setM ha ⟨_, upd_same, store_ok g rz⟩) (Stp.setM hα e trivial)⟩
          · cases h
        · cases h
      | zL xs => cases h
      | zK xs => cases h
      | zT xs => cases h
  | d x => cases h
  | fn x => cases h
  | its x => cases h
  | scr x => cases h
/-! ### name op= value -/
def rAug (op : Operator) (x y : V) (H : Hp) (Q : VK) : Prop := (op = .Add ∧ (ipI (fun i j => i + j) x y H Q ∨ rExt2 x y H Q)) ∨ (op = .Sub ∧ ipI (fun i j => i - j) x y H Q)
theorem aug_ok (op : Operator) : PIp X op (rAug op) := by
  intro pins s σ H x y v u Q I r1 r2 h
  rcases h with ⟨rfl, h | h⟩ | ⟨rfl, h⟩
  · exact ip_add pins s σ H x y v u Q I r1 r2 h
  · exact iop_ext pins s σ H x y v u Q I r1 r2 h
  · exact ip_sub pins s σ H x y v u Q I r1 r2 h
theorem set_self {ρ : Rho} {i : Nat} {d : D} (h : ρ.getD i none = some d) : ρ.set i (some d) = ρ := by
  rw [List.getD_eq_getElem?_getD] at h
  apply List.ext_getElem?
  intro j
  by_cases e : i = j
  · subst e
    cases q : ρ[i]? with
    | none => rw [q] at h; cases h
    | some o =>
      rw [q] at h
      have h : o = some d := h
      subst h
      rw [List.getElem?_set_self (List.getElem?_eq_some_iff.mp q).1]
  · rw [List.getElem?_set_ne e]
/-! ### a walk -/
theorem yld_take {F F2 H2 H3 : Hp} {α α2 : List Addr} {M2 : Ms} {d : D} {x : V} (e2 : Same F F2) (g2 : Ext α α2) (R2 : Rp G F2 α2 M2 H2)
    (hx : (H3 = H2 ∧ RV G F α d x) ∨ (∃ t vs ds, H2 t = none ∧ x = .ref t ∧ H3 = upd H2 t (.tup vs) ∧ d = .d (.tuple ds) ∧ DqAll F vs ds) ∨ ∃ t ks, H3 = H2 ∧ x = .ref t ∧ H2 t = some (.tup (List.map kV ks)) ∧ d = .d (.tuple (ks.map keyD))) :
    ∃ F3, Same F2 F3 ∧ Stp F2 F3 α2 α2 H2 H3 ∧ Rp G F3 α2 M2 H3 ∧ RV G F3 α2 d x := by
  rcases hx with ⟨rfl, r⟩ | ⟨t, ws, ds, ht, rfl, rfl, rfl, g⟩ | ⟨t, ks, rfl, rfl, ht, rfl⟩
  · exact ⟨F2, Same.refl _, Stp.refl _ _ _, R2, (r.grow g2).mono e2⟩
  · refine ⟨upd F2 t (.tup ws), same_upd (R2.free ht), Stp.upd ht, R2.new ht, ?_⟩
    exact .tup upd_same (dqAll_mono (e2.trans (same_upd (R2.free ht))) g)
  · obtain ⟨F3, e3, st3, R3, h3, hk⟩ := R2.takeT ht
    exact ⟨F3, e3, st3, R3, .tup h3 (keys_dq F3 ks)⟩
def fbody (call : Nat → List D → Ms → Rs D) (wf : Nat) (tg : Tg) (b : Ss) : D → Rho → Ms → Rs (Fl × Rho) := fun x ρ M => match bindTg tg x ρ with
  | some ρ1 => evSs call wf b ρ1 M
  | none => none
theorem for_loop {wf : Nat} {tg : Tg} {b : Ss} {Zz : Rs (Fl × Rho) → Prop} (hz : ¬ Zz none) {F H : Hp} {α : List Addr} {ρ : Rho} {M : Ms} {σ : L2.St} {xs : List D} {J : It} {Dn : Ends} (R : Rp G F α M H) (S : Sl G F α ρ σ)
    {Gd : Hp → Prop} (hG : ∀ F2 α2 M2 H2, Ext α α2 → Same F F2 → Stp F F2 α α2 H H2 → Rp G F2 α2 M2 H2 → Gd H2) (ok : ItOk G F α J xs Gd)
    (fin : ∀ F2 α2 M2 H2 fl ρ2, Ext α α2 → Same F F2 → Stp F F2 α α2 H H2 → Rp G F2 α2 M2 H2 → Zz (Rs.ok (fl, ρ2) M2) → PF G Dn F2 α2 M2 H2 (fl, ρ2))
    (err : ∀ x, Zz (some (.error x)) → exS G W x F α H) (h : Zz (forLoop (fbody call wf tg b) xs ρ M)) :
    ∃ W' : Nat → Nat → L2.St → Hp → Prop, (∃ m, W' 0 m σ H) ∧ ∀ i m σ H, W' i m σ H →
      (J.stop i H ∧ Dn.nx σ H) ∨ (J.go i H ∧ ∃ Nn : L2.St → Hp → Prop, (∀ σ' H', Nn σ' H' → ∃ m', m' < m ∧ W' (i + 1) m' σ' H') ∧ ∀ x H', J.yld i H x H' → gTg G tg x σ H' fun σ2 H2 => tevSs G W call wf b { Dn with nx := Nn, ct := Nn, bk := Dn.nx } σ2 H2) := by
  let P : Nat → L2.St → Hp → Prop := fun i σ2 H2 => ∃ F2 α2 ρ2 M2, Ext α α2 ∧ Same F F2 ∧ Stp F F2 α α2 H H2 ∧ Rp G F2 α2 M2 H2 ∧ Sl G F2 α2 ρ2 σ2 ∧ Zz (forLoop (fbody call wf tg b) (xs.drop i) ρ2 M2)
  refine ⟨fun i mm σ2 H2 => mm = xs.length - i ∧ i ≤ xs.length ∧ P i σ2 H2, ⟨xs.length, by simp, Nat.zero_le _, F, α, ρ, M, Ext.refl _, Same.refl _, Stp.refl _ _ _, R, S, by simpa using h⟩, ?_⟩
  rintro i mm σ2 H2 ⟨rfl, hi, F2, α2, ρ2, M2, g2, e2, st2, R2, S2, h2⟩
  have sm : Gd H2 := hG F2 α2 M2 H2 g2 e2 st2 R2
  by_cases hlt : i < xs.length
  · refine .inr ⟨ok.go i H2 hlt sm, P (i + 1), fun σ' H' p => ⟨xs.length - (i + 1), by omega, rfl, hlt, p⟩, fun x H3 y => ?_⟩
    obtain ⟨d, hd, hx⟩ := ok.yld i H2 x H3 hlt sm y
    obtain ⟨F3, e3, st3, R3, rx⟩ := yld_take e2 g2 R2 hx
    have hdrop : xs.drop i = d :: xs.drop (i + 1) := by
      rw [List.drop_eq_getElem_cons hlt]
      congr 1
      exact (List.getElem?_eq_some_iff.mp hd).2
    rw [hdrop, forLoop] at h2
    unfold fbody at h2
    cases hb : bindTg tg d ρ2 with
    | none => rw [hb] at h2; exact (hz h2).elim
    | some ρ3 =>
      rw [hb] at h2
      refine ⟨F3, α2, d, ρ2, ρ3, R3.sub, rx, S2.mono e3, hb, fun σ3 S3 _ => ⟨F3, α2, ρ3, M2, R3, S3, ?_⟩⟩
      cases hs : evSs call wf b ρ3 M2 with
      | none => simp only [hs] at h2; exact (hz h2).elim
      | some q =>
        simp only [hs] at h2
        cases q with
        | error z => exact exS.adv (g2) (e2.trans e3) (st2.trans st3) (err z h2)
        | ok q =>
          obtain ⟨⟨fl, ρ4⟩, M4⟩ := q
          intro F5 α5 H5 g5 e5 R5 s5
          have gg := g2.trans g5
          have ee := (e2.trans e3).trans e5
          have ss := (st2.trans st3).trans s5
          cases fl with
          | nx => exact fun σ6 S6 => ⟨F5, α5, ρ4, M4, gg, ee, ss, R5, S6, h2⟩
          | ct => exact fun σ6 S6 => ⟨F5, α5, ρ4, M4, gg, ee, ss, R5, S6, h2⟩
          | bk => exact fin F5 α5 M4 H5 .nx ρ4 gg ee ss R5 h2
          | rt d => exact fin F5 α5 M4 H5 (.rt d) ρ4 gg ee ss R5 h2
  · have ei : i = xs.length := by omega
    subst ei
    rw [List.drop_length, forLoop] at h2
    exact .inl ⟨ok.stop H2 sm, fin F2 α2 M2 H2 .nx ρ2 g2 e2 st2 R2 h2 σ2 S2⟩
theorem whl_loop {wf : Nat} {t : E} {b : Ss} {F H : Hp} {α : List Addr} {ρ : Rho} {M : Ms} {σ : L2.St} {Dn : Ends} (R : Rp G F α M H) (S : Sl G F α ρ σ)
    (h : WpX G W F α H (whlLoop (fun ρ M => ev call t ρ M) (fun ρ M => evSs call wf b ρ M) wf ρ M) (PF G Dn)) : tWhile (tevT G W call t) (tevSs G W call wf b) Dn σ H := by
  obtain ⟨W', hW⟩ : ∃ W' : Nat → L2.St → Hp → Prop, W' = fun (m : Nat) (σ2 : L2.St) (H2 : Hp) => ∃ (F2 : Hp) (α2 : List Addr) (ρ2 : Rho) (M2 : Ms), Rp G F2 α2 M2 H2 ∧ Sl G F2 α2 ρ2 σ2 ∧ WpX G W F2 α2 H2 (whlLoop (fun ρ M => ev call t ρ M) (fun ρ M => evSs call wf b ρ M) m ρ2 M2) (PF G Dn) := ⟨_, rfl⟩
  refine ⟨W', ⟨wf, by rw [hW]; exact ⟨F, α, ρ, M, R, S, h⟩⟩, fun m σ2 H2 w => ?_⟩
  rw [hW] at w
  obtain ⟨F2, α2, ρ2, M2, R2, S2, h2⟩ := w
  cases m with
  | zero => rw [whlLoop] at h2; exact h2.elim
  | succ m =>
    rw [whlLoop] at h2
    refine tevT_stepX (k1 := fun M1 => (evSs call wf b ρ2 M1).bind fun f M2 => match f with
      | (.nx, ρ1) => whlLoop (fun ρ M => ev call t ρ M) (fun ρ M => evSs call wf b ρ M) m ρ1 M2
      | (.ct, ρ1) => whlLoop (fun ρ M => ev call t ρ M) (fun ρ M => evSs call wf b ρ M) m ρ1 M2
      | (.bk, ρ1) => Rs.ok (.nx, ρ1) M2
      | (.rt d, ρ1) => Rs.ok (.rt d, ρ1) M2) (k0 := fun M1 => Rs.ok (.nx, ρ2) M1) h2 R2 S2 fun c M3 F3 H3 e3 st3 R3 S3 h3 => ?_
    cases c with
    | false =>
      rw [if_neg (by decide)] at h3 ⊢
      exact h3.done R3 σ2 S3
    | true =>
      rw [if_pos rfl] at h3 ⊢
      refine ⟨W' m, fun σ' H' p => ⟨m, Nat.lt_succ_self m, p⟩, F3, α2, ρ2, M3, R3, S3, ?_⟩
      refine h3.bind.imp fun F4 α4 M4 H4 f ⟨g4, e4, R4, s4, h4⟩ => ?_
      obtain ⟨fl, ρ5⟩ := f
      rw [hW]
      cases fl with
      | nx => exact fun σ6 S6 => ⟨F4, α4, ρ5, M4, R4, S6, h4⟩
      | ct => exact fun σ6 S6 => ⟨F4, α4, ρ5, M4, R4, S6, h4⟩
      | bk => exact fun σ6 S6 => h4.done R4 σ6 S6
      | rt d => exact fun v r => h4.done R4 v r
end
end Ob

set_option Elab.async false
set_option linter.all false
set_option maxRecDepth 100000
set_option maxHeartbeats 8000000
namespace Ob
open PySem PySem.Spec PyProof.Rows L2
section
variable {G : Gx} {T : Tab} {N : List Str} {call : Nat → List D → Ms → Rs D} {W : XK} {X : Cx} {s0 sc : Scope}
theorem snd_i (C : Cok G T N call W X s0 sc) (it : E) {s1 : Scope} {tg : Tg} {tgx i : Expr} (h1 : itTg it tg = true) (h3 : mtTg N s1 tg tgx = true) (h4 : mt T N (isIt it) sc it i = true) : PI X tgx i (tevI G W call it) := snd_it it C i h1 h3 h4
theorem snd_m (C : Cok G T N call W X s0 sc) {m : Md} {e : E} {x : Expr} (h : mtM T N sc m e x = true) : PE X x (tevM G W call m e) ∧ okM m e := by
  cases m with
  | v => exact ⟨snd_e e C x false h (fun q => by cases q), fun q => by rcases q with q | q <;> cases q⟩
  | l =>
    simp only [mtM, Bool.and_eq_true] at h
    exact ⟨snd_e e C x true h.2 (fun _ => h.1), fun q => by rcases q with q | q <;> cases q⟩
  | k =>
    simp only [mtM] at h
    split at h
    · split at h
      · exact ⟨pe_dnewK, fun _ => rfl⟩
      · cases h
    · cases h
  | t =>
    simp only [mtM] at h
    split at h
    · split at h
      · exact ⟨pe_dnewT, fun _ => rfl⟩
      · cases h
    · cases h
  | p =>
    simp only [mtM] at h
    split at h
    · rename_i n q y pos hv
      rw [vCall_eq hv]
      simp only [Bool.and_eq_true, decide_eq_true_eq] at h
      obtain ⟨⟨⟨⟨rfl, hg⟩, ho⟩, hpl⟩, hy⟩ := h
      have kk := C.kk
      have hst : starEach [y] X.env = (false, eval y X.env) :: starEach [] X.env := starEach_plain [] _ hpl
      have pa : PA X [y] (tCons (tev G W call false e) tNil) := pa_cons (snd_e e C y false hy (fun q => by cases q)) pa_nil hst
      have hr : CallR X (.type "dict") (rDP G.K) := by rw [← kk]; exact call_dictP C.calm
      exact ⟨pe_callTy (T := "dict") hr (C.gl hg) (C.blt _ (by decide +kernel)) (by decide +kernel) pa (okN_n ho) (okN_d ho) hst, fun q => by rcases q with q | q <;> cases q⟩
    · cases h
  | s =>
    simp only [mtM] at h
    split at h
    · rename_i a b ka vb pos
      simp only [Bool.and_eq_true] at h
      exact ⟨pe_disp (pps_cons (snd_e a C ka false h.1 (fun q => by cases q)) (snd_e b C vb false h.2 (fun q => by cases q)) pps_nil) rfl rfl (by simp) (by simp), fun q => by rcases q with q | q <;> cases q⟩
    · cases h
theorem lcS_fin (C : Cok G T N call W X sc sc) {elt cond it : E} {tg : Tg} {vs : List Nat} {y : Str} {py : Pos} {x : Expr} {pos : Pos} {m : Bool} {j : Nat} (h : mt T N false sc (.lc elt tg it cond vs) x = true)
    (hj : X.N[j]? = some y) (hl : X.env.scope.names.lookup y = some .local) (hw : swB sc (.Name y py) x = true) : PS X (.Assign [.Name y py] x pos) (tAsg (tev G W call m (.lc elt tg it cond vs)) (gName j)) := by
  unfold mt at h
  split at h
  · rename_i e t i ifs scope pos'
    simp only [Bool.and_eq_true] at h
    obtain ⟨⟨⟨⟨⟨⟨⟨h1, h2⟩, h3⟩, h4⟩, h5⟩, h6⟩, h7⟩, h8⟩ := h
    have hsw : swapsWith (.ListComp e [⟨t, i, ifs, 0⟩] scope pos') (some (.Name y py)) pos.line X.env = pure true := by rw [swB_ok C.hsc C.fk, hw]
    refine PS.imp (ps_setLc (own := ownOf N vs) C.calm C.nd hj hl hsw (snd_i C it h1 h6 h5) (blkOk_by (by rw [C.hN, C.hsc]; exact h4)) (g := gTg G tg) (tt := ttOf G call cond) (te := tev G E0 call false elt)
      (fun s H c cl fp => snd_tg (C.blk h4 s H c cl fp) tg t h6) (fun s H c cl fp => pts_of (C.blk h4 s H c cl fp) h8 (fun y' z1 z2 => snd_t cond (C.blk h4 s H c cl fp) y' z1 z2)) (fun s H c cl fp => snd_e elt (C.blk h4 s H c cl fp) e false h7 (fun q => by cases q)) (fold_of _ h3)) ?_
    intro D σ H h
    rw [own_snd]
    exact lc_read (all_in h2) h
  · cases h
theorem lcS2_fin (C : Cok G T N call W X sc sc) {elt cond it cond1 it1 : E} {tg tg1 : Tg} {vs vs1 : List Nat} {y : Str} {py : Pos} {x : Expr} {pos : Pos} {m : Bool} {j : Nat} (h : mt T N false sc (.lc2 elt tg it cond vs tg1 it1 cond1 vs1) x = true)
    (hj : X.N[j]? = some y) (hl : X.env.scope.names.lookup y = some .local) (hw : swB sc (.Name y py) x = true) : PS X (.Assign [.Name y py] x pos) (tAsg (tev G W call m (.lc2 elt tg it cond vs tg1 it1 cond1 vs1)) (gName j)) := by
  unfold mt at h
  split at h
  · rename_i e t i ifs t1 i1 ifs1 scope pos'
    simp only [Bool.and_eq_true] at h
    obtain ⟨⟨⟨⟨⟨⟨⟨⟨⟨⟨⟨⟨⟨⟨a1, a2⟩, a3⟩, a4⟩, a5⟩, a6⟩, a7⟩, a8⟩, b1⟩, b2⟩, b3⟩, b4⟩, b5⟩, b6⟩, b7⟩ := h
    have hsw : swapsWith (.ListComp e [⟨t, i, ifs, 0⟩, ⟨t1, i1, ifs1, 0⟩] scope pos') (some (.Name y py)) pos.line X.env = pure true := by rw [swB_ok C.hsc C.fk, hw]
    refine PS.imp (ps_setLc2 (own := ownOf N vs) (vs1 := vs1) C.calm C.nd hj hl hsw (snd_i C it a1 b2 b1) (blkOk_by (by rw [C.hN, C.hsc]; exact a8)) (by rw [own_snd]; exact all_in a5) (g := gTg G tg) (g1 := gTg G tg1) (tt := ttOf G call cond) (tt1 := ttOf G call cond1) (te := tev G E0 call false elt)
      (fun s H c cl fp => snd_tg (C.blk a8 s H c cl fp) tg t b2) (fun s H c cl fp => pts_of (C.blk a8 s H c cl fp) b6 (fun y' z1 z2 => snd_t cond (C.blk a8 s H c cl fp) y' z1 z2))
      (fun s H c cl fp => snd_i (C.blk a8 s H c cl fp) it1 a2 b4 b3) (fun s H c cl fp => snd_tg (C.blk a8 s H c cl fp) tg1 t1 b4) (fun s H c cl fp => pts_of (C.blk a8 s H c cl fp) b7 (fun y' z1 z2 => snd_t cond1 (C.blk a8 s H c cl fp) y' z1 z2))
      (fun s H c cl fp => snd_e elt (C.blk a8 s H c cl fp) e false b5 (fun q => by cases q)) (fold_of _ a6) (fun env => fold_of env a7)) ?_
    intro D σ H h
    rw [own_snd]
    exact lc2_read (all_in a3) (all_in a4) h
  · cases h
theorem noswap_s {T : Tab} {N : List Str} {sc : Scope} {e : E} {v t : Expr} (h : mtM T N sc .s e v = true) (hs : swB sc t v = true) : False := by
  simp only [mtM] at h
  split at h
  · cases hs
  · cases h
theorem noswap_p {T : Tab} {N : List Str} {sc : Scope} {e : E} {v t : Expr} (h : mtM T N sc .p e v = true) (hs : swB sc t v = true) : False := by
  simp only [mtM] at h
  split at h
  · rename_i n q y pos hv
    rw [vCall_eq hv] at hs
    cases hs
  · cases h
theorem ps_setM (C : Cok G T N call W X sc sc) {i : Nat} {m : Md} {e : E} {t v : Expr} {pos : Pos} (h : mtSet T N sc i m e t v = true) : PS X (.Assign [t] v pos) (tAsg (tevM G W call m e) (gName i)) ∧ okM m e := by
  unfold mtSet at h
  split at h
  · rename_i n p hv
    rw [vName_eq hv] at h ⊢
    simp only [Bool.and_eq_true, decide_eq_true_eq, Bool.or_eq_true, Bool.not_eq_true'] at h
    obtain ⟨⟨⟨hN, hl⟩, hm⟩, hw⟩ := h
    obtain ⟨pe, okm⟩ := snd_m C hm
    obtain ⟨l1, l2⟩ := C.st n hl
    have hN' : X.N[i]? = some n := by rw [C.hN]; exact hN
    refine ⟨?_, okm⟩
    rcases hw with hw | ⟨hlc, hloc⟩
    · exact ps_set C.nd hN' l1 pe (by rw [swB_ok C.hsc C.fk, hw]) l2
    · cases hsw : swB sc (.Name n p) v with
      | false => exact ps_set C.nd hN' l1 pe (by rw [swB_ok C.hsc C.fk, hsw]) l2
      | true =>
        have hloc' : X.env.scope.names.lookup n = some .local := by rw [C.hsc]; exact hloc
        cases e with
        | lc elt tg it cond vs =>
          cases m with
          | v => exact lcS_fin (m := false) C hm hN' hloc' hsw
          | l =>
            simp only [mtM, Bool.and_eq_true] at hm
            exact lcS_fin (m := true) C hm.2 hN' hloc' hsw
          | k => cases okm (.inl rfl)
          | t => cases okm (.inr rfl)
          | p => exact (noswap_p hm hsw).elim
          | s => exact (noswap_s hm hsw).elim
        | lc2 elt tg it cond vs tg1 it1 cond1 vs1 =>
          cases m with
          | v => exact lcS2_fin (m := false) C hm hN' hloc' hsw
          | l =>
            simp only [mtM, Bool.and_eq_true] at hm
            exact lcS2_fin (m := true) C hm.2 hN' hloc' hsw
          | k => cases okm (.inl rfl)
          | t => cases okm (.inr rfl)
          | p => exact (noswap_p hm hsw).elim
          | s => exact (noswap_s hm hsw).elim
        | _ => cases hlc
  · cases h
theorem assign_sub {o i : Expr} {pos : Pos} {env : Env} (h : plainX i = true) (v : Value) : assign (.Subscript o i pos) env v = (do
      let ov ← holding [v] (eval o env)
      let iv ← holding [v, ov] (eval i env)
      standAt pos
      holding [v, ov, iv] (setItem ov iv v)
      release [v, ov, iv] []) := by
  cases i <;> first | rfl | cases h
theorem isLst_ok {F H : Hp} {α : List Addr} {M : Ms} (R : Rp G F α M H) {o : D} {v : V} (r : RV G F α o v) (h : isLst M o = true) : ∃ n a xs vs, o = .own n ∧ α[n]? = some a ∧ v = .ref a ∧ M[n]? = some (.lst xs) ∧ H a = some (.lst vs) ∧ DqAll F vs xs := by
  unfold isLst at h
  split at h
  · rename_i n
    obtain ⟨a, ha, rfl⟩ := r
    split at h
    · rename_i xs hm
      obtain ⟨vs, e, g⟩ := R.ok n a _ ha hm
      exact ⟨n, a, xs, vs, rfl, ha, rfl, hm, e, g⟩
    · cases h
  · cases h
variable {wf : Nat}
theorem ps_putS (C : Cok G T N call W X sc sc) {i : Nat} {k v : E} {st : Stmt} (h : mtS T N sc (.put i k v) st = true) : PS X st (tevS G W call wf (.put i k v)) := by
  unfold mtS at h
  split at h
  · rename_i n p kx sp vx pos
    simp only [Bool.and_eq_true] at h
    obtain ⟨⟨⟨hs, hp⟩, hk⟩, hv⟩ := h
    obtain ⟨h1, h2, h3, h4⟩ := C.slot hs
    have hu : X.A.units + 1 < cLine := by have := C.un; omega
    have hsw : swapsWithSole [Expr.Subscript (.Name n p) kx sp] vx pos.line X.env = pure false := by
      show swapsWith vx (some (Expr.Subscript (.Name n p) kx sp)) pos.line X.env = _
      rw [swB_ok C.hsc C.fk]
      unfold swB
      split <;> rfl
    refine PS.imp (ps_asg (snd_e v C vx false hv (fun q => by cases q)) (pg_sub (pe_var h1 h2 h3 h4) (snd_e k C kx false hk (fun q => by cases q)) (ps_putO hu) (fun u => assign_sub hp u)) hsw (stB_ok C.hsc C.fk rfl) rfl) ?_
    rintro D σ H ⟨F, α, ρ, M, R, S, h⟩
    rw [evS] at h
    split at h
    · rename_i o eo
      obtain ⟨ov, hso, ro⟩ := S.getD eo
      refine tev_stepX h R S fun d1 M1 F1 v1 H1 e1 s1 R1 S1 r1 h1 => ⟨ov, hso, tev_stepX h1 R1 S1 fun d2 M2 F2 v2 H2 e2 s2 R2 S2 r2 h2 => ?_⟩
      split at h2
      · rename_i y z
        split at h2
        · rename_i M4 hput
          refine put_ok R2 ((ro.mono e1).mono e2) r2 (r1.mono e2) hput fun H' R3 s3 => ?_
          exact (WpX.adv (Ext.refl _) (Same.refl _) s3 h2).done R3 σ S2
        · exact h2.elim
      · exact h2.elim
    · exact h.elim
  · cases h
theorem ps_augS' (C : Cok G T N call W X sc sc) {i : Nat} {op : Operator} {e : E} {st : Stmt} (h : mtS T N sc (.aug i op e) st = true) : PS X st (tevS G W call wf (.aug i op e)) := by
  unfold mtS at h
  split at h
  · rename_i n p o vx pos
    simp only [Bool.and_eq_true, decide_eq_true_eq] at h
    obtain ⟨⟨⟨rfl, hN⟩, hl⟩, hv⟩ := h
    obtain ⟨l1, l2⟩ := C.st n hl
    refine PS.imp (ps_aug C.nd (by rw [C.hN]; exact hN) l1 (snd_e e C vx false hv (fun q => by cases q)) (aug_ok op) l2) ?_
    rintro D σ H ⟨F, α, ρ, M, R, S, h⟩
    rw [evS] at h
    split at h
    · rename_i x eo
      obtain ⟨ov, hso, ro⟩ := S.getD eo
      refine ⟨ov, hso, tev_stepX h R S fun d1 M1 F1 v1 H1 e1 s1 R1 S1 r1 h1 => ?_⟩
      have ro := ro.mono e1
      split at h1
      · cases rv_int ro
        cases rv_int r1
        exact .inl ⟨rfl, .inl ⟨_, _, rfl, rfl, h1.done R1 _ (S1.set (.int _))⟩⟩
      · cases rv_int ro
        cases rv_int r1
        exact .inr ⟨rfl, _, _, rfl, rfl, h1.done R1 _ (S1.set (.int _))⟩
      · rename_i nn ys _
        split at h1
        · rename_i xs hm
          split at h1
          · rename_i hln
            obtain ⟨a, ha, rfl⟩ := ro
            obtain ⟨vs, e, g⟩ := R1.ok nn a _ ha hm
            cases r1 with
            | lst hf g2 =>
              rename_i b zs
              refine .inl ⟨rfl, .inr ⟨_, _, _, _, rfl, rfl, e, R1.sub _ _ hf, by rw [DqAll.length g, DqAll.length g2]; exact line_le hln, ?_⟩⟩
              have hα : a ∈ α := List.mem_of_getElem? ha
              have R2 := R1.setM ha (m := .lst (xs ++ ys)) (o := .lst (vs ++ zs)) ⟨_, upd_same, DqAll.append g g2⟩
              have s2 : Stp F1 F1 α α H1 (upd H1 a (.lst (vs ++ zs))) := Stp.setM hα e trivial
              have S2 := S1.set (i := i) (d := .own nn) (v := .ref a) ⟨a, ha, rfl⟩
              rw [set_self eo] at S2
              exact (WpX.adv (Ext.refl _) (Same.refl _) s2 h1).done R2 _ S2
          · exact h1.elim
        · exact h1.elim
      · exact h1.elim
    · exact h.elim
  · cases h
theorem ps_appS (C : Cok G T N call W X sc sc) {i : Nat} {e : E} {st : Stmt} (h : mtS T N sc (.app i e) st = true) : PS X st (tevS G W call wf (.app i e)) := by
  unfold mtS at h
  split at h
  · rename_i x xpos
    split at h
    · rename_i n p m q l pos hv
      rw [vMeth_eq hv]
      simp only [Bool.and_eq_true, decide_eq_true_eq] at h
      obtain ⟨⟨⟨⟨hs, rfl⟩, hq⟩, hpl0⟩, hk⟩ := h
      obtain ⟨h1, h2, h3, h4⟩ := C.slot hs
      have hst : starEach [l] X.env = [(false, eval l X.env)] := starEach_plain [] _ hpl0
      refine PS.imp (ps_expr (pe_bm PySem.F.plainAttrs_list PySem.F.slot_list_append PySem.F.type_list_append mt_append (pe_var h1 h2 h3 h4) (pa_cons (snd_e e C l false hk (fun q => by cases q)) pa_nil hst) rfl (by rw [hst]; rfl) hq hst rfl) rfl) ?_
      rintro D σ H ⟨F, α, ρ, M, R, S, h⟩
      rw [evS] at h
      split at h
      · rename_i o eo
        obtain ⟨ov, hso, ro⟩ := S.getD eo
        split at h
        · rename_i hil
          obtain ⟨nn, a, xs0, vs0, rfl, ha, rfl, hm0, hH0, g0⟩ := isLst_ok R ro hil
          refine ⟨_, hso, .inl ⟨rfl, vs0, .inl (.inl hH0)⟩, tev_stepX h R S fun d1 M1 F1 v1 H1 e1 s1 R1 S1 r1 h1 => ?_⟩
          split at h1
          · rename_i y
            split at h1
            · rename_i M3 happ
              simp only [appM] at happ
              split at happ
              · rename_i xs hm
                split at happ
                · rename_i hln
                  cases happ
                  obtain ⟨vs, e', g⟩ := R1.ok nn a _ ha hm
                  have hα : a ∈ α := List.mem_of_getElem? ha
                  refine ⟨a, vs, v1, rfl, rfl, e', by have := line_le hln; have := DqAll.length g; omega, ?_⟩
                  have R2 := R1.setM ha (m := .lst (xs ++ [y])) (o := .lst (vs ++ [v1])) ⟨_, upd_same, DqAll.append g (.cons r1 .nil)⟩
                  have s2 : Stp F1 F1 α α H1 (upd H1 a (.lst (vs ++ [v1]))) := Stp.setM hα e' trivial
                  exact (WpX.adv (Ext.refl _) (Same.refl _) s2 h1).done R2 _ S1
                · cases happ
              · cases happ
            · exact h1.elim
          · exact h1.elim
        · exact h.elim
      · exact h.elim
    · cases h
  · cases h

theorem evPar_nil {ρ : Rho} {M : Ms} : evPar call [] .nil ρ M = Rs.ok [] M := rfl
theorem evPar_cons {i : Nat} {m : Md} {is : List (Nat × Md)} {e : E} {es : Es} {ρ : Rho} {M : Ms} : evPar call ((i, m) :: is) (.cons e es) ρ M = (evM call m e ρ M).bind fun x M1 => (evPar call is es ρ M1).bind fun xs M2 => Rs.ok (x :: xs) M2 := rfl
theorem par_cons (C : Cok G T N call W X sc sc) {i : Nat} {m : Md} {is : List (Nat × Md)} {es : Es} {ts vs : List Expr} (h : mtPar T N sc ((i, m) :: is) es ts vs = true) :
    ∃ e es' t ts' v vs' n p, es = .cons e es' ∧ ts = t :: ts' ∧ vs = v :: vs' ∧ t = .Name n p ∧ X.N[i]? = some n ∧ locB sc n = true ∧ plainX v = true ∧ PE X v (tevM G W call m e) ∧ okM m e ∧ mtPar T N sc is es' ts' vs' = true := by
  cases es with
  | nil => cases ts <;> cases vs <;> cases h
  | cons e es' =>
    cases ts with
    | nil => cases h
    | cons t ts' =>
      cases vs with
      | nil => cases h
      | cons v vs' =>
        simp only [mtPar, Bool.and_eq_true] at h
        obtain ⟨⟨⟨h1, h2⟩, h3⟩, h4⟩ := h
        split at h1
        · rename_i n p hv
          simp only [Bool.and_eq_true, decide_eq_true_eq] at h1
          obtain ⟨pe, ok⟩ := snd_m C h3
          exact ⟨e, es', t, ts', v, vs', n, p, rfl, rfl, rfl, vName_eq hv, by rw [C.hN]; exact h1.1, h1.2, h2, pe, ok, h4⟩
        · cases h1
theorem par_nil {es : Es} {ts vs : List Expr} (h : mtPar T N sc [] es ts vs = true) : es = .nil ∧ ts = [] ∧ vs = [] := by
  cases es <;> cases ts <;> cases vs <;> first | exact ⟨rfl, rfl, rfl⟩ | cases h
/-- the values of a parallel assignment, from the left -/
def tParA (G : Gx) (W : XK) (call : Nat → List D → Ms → Rs D) : List (Nat × Md) → Es → TA
  | (_, m) :: is, .cons e es => tCons (tevM G W call m e) (tParA G W call is es)
  | _, _ => tNil
def gNames : List (Nat × Md) → TGs
  | [] => gNil
  | (i, _) :: is => gCons (gName i) (gNames is)
def setS : List (Nat × Md) → List V → L2.St → L2.St
  | (i, _) :: is, v :: vs, σ => setS is vs (σ.set i (some v))
  | _, _, σ => σ
theorem setS_sl {F : Hp} {α : List Addr} : ∀ {is : List (Nat × Md)} {ds : List D} {vs : List V} {ρ : Rho} {σ : L2.St}, RVs G F α ds vs → Sl G F α ρ σ → Sl G F α (setAll is ds ρ) (setS is vs σ)
  | [], _, _, _, _, r, S => by cases r <;> exact S
  | _ :: _, _, _, _, _, .nil, S => S
  | _ :: is, _, _, _, _, .cons a b, S => setS_sl (is := is) b (S.set a)
theorem gNames_run : ∀ {is : List (Nat × Md)} {vs : List V} {σ : L2.St} {H : Hp} {Q : L2.St → Hp → Prop}, vs.length = is.length → Q (setS is vs σ) H → gNames is vs σ H Q
  | [], [], _, _, _, _, q => ⟨rfl, q⟩
  | [], _ :: _, _, _, _, h, _ => by simp at h
  | _ :: _, [], _, _, _, h, _ => by simp at h
  | _ :: is, v :: vs, _, _, _, h, q => ⟨v, vs, rfl, gNames_run (is := is) (by simpa using h) q⟩
theorem RVs.grow {F : Hp} {α α' : List Addr} (e : Ext α α') : ∀ {ds : List D} {vs : List V}, RVs G F α ds vs → RVs G F α' ds vs
  | _, _, .nil => .nil
  | _, _, .cons a b => .cons (a.grow e) (RVs.grow e b)
/-- what the check tells of it: the parts, the targets, the values -/
theorem par_parts (C : Cok G T N call W X sc sc) : ∀ {is : List (Nat × Md)} {es : Es} {ts vs : List Expr}, mtPar T N sc is es ts vs = true →
    PA X vs (tParA G W call is es) ∧ PGs X ts (gNames is) ∧ ts.length = is.length ∧ (assignEach ts X.env).length = ts.length ∧ (assignEach ts X.env).findIdx? (·.1) = none ∧
      ∀ {β : Type} {k : List D → Ms → Rs β} {F : Hp} {α : List Addr} {ρ : Rho} {M : Ms} {σ : L2.St} {H : Hp} {P : Hp → List Addr → Ms → Hp → β → Prop} {Q' : List V → Hp → Prop}, WpX G W F α H ((evPar call is es ρ M).bind k) P → Rp G F α M H → Sl G F α ρ σ →
        (∀ ds M1 F1 α1 vs H1, Ext α α1 → Same F F1 → Stp F F1 α α1 H H1 → Rp G F1 α1 M1 H1 → Sl G F1 α1 ρ σ → RVs G F1 α1 ds vs → ds.length = is.length → WpX G W F1 α1 H1 (k ds M1) P → Q' vs H1) → tParA G W call is es σ H Q'
  | [], es, ts, vs, h => by
    obtain ⟨rfl, rfl, rfl⟩ := par_nil h
    refine ⟨pa_nil, pgs_nil, rfl, rfl, rfl, ?_⟩
    intro β k F α ρ M σ H P Q' h R S f
    rw [evPar_nil] at h
    exact f [] M F α [] H (Ext.refl _) (Same.refl _) (Stp.refl _ _ _) R S .nil rfl h
  | (i, m) :: is, es, ts, vs, h => by
    obtain ⟨e, es', t, ts', v, vs', n, p, rfl, rfl, rfl, rfl, hN, hl, pl, pe, ok, h'⟩ := par_cons C h
    obtain ⟨pa, pg, l1, l2, l3, rd⟩ := par_parts C h'
    obtain ⟨x1, x2⟩ := C.st n hl
    have ha : assignEach (.Name n p :: ts') X.env = (false, assign (.Name n p) X.env) :: assignEach ts' X.env := rfl
    refine ⟨pa_cons pe pa (starEach_plain _ _ pl), pgs_cons (pg_name C.nd hN x1 x2) pg (by rw [ha]; rfl), by simp [l1], by rw [ha]; simp [l2], by rw [ha]; simp [List.findIdx?_cons, l3], ?_⟩
    intro β k F α ρ M σ H P Q' h R S f
    rw [evPar_cons] at h
    simp only [Rs.bind_assoc, Rs.bind_ok] at h
    refine tevM_stepX ok h R S fun d1 M1 F1 α1 u1 H1 g1 e1 s1 R1 S1 r1 h1 => rd h1 R1 S1 fun ds M2 F2 α2 us H2 g2 e2 s2 R2 S2 r2 hlen h2 => ?_
    exact f (d1 :: ds) M2 F2 α2 (u1 :: us) H2 (g1.trans g2) (e1.trans e2) (s1.trans s2) R2 S2 (.cons ((r1.grow g2).mono e2) r2) (by simp [hlen]) h2
theorem ps_parS (C : Cok G T N call W X sc sc) {is : List (Nat × Md)} {es : Es} {st : Stmt} (h : mtS T N sc (.par is es) st = true) : PS X st (tevS G W call wf (.par is es)) := by
  unfold mtS at h
  split at h
  · rename_i ts k p vs k2 p2 pos
    simp only [Bool.and_eq_true] at h
    obtain ⟨⟨hp, hln⟩, hst⟩ := h
    obtain ⟨pa, pg, l1, l2, l3, rd⟩ := par_parts C hp
    have hsw : swapsWithSole [Expr.Tuple ts k p] (.Tuple vs k2 p2) pos.line X.env = pure false := rfl
    split at hst
    · rename_i hs
      refine PS.imp (ps_asg (pe_tup pa) (pg_tup C.calm pg l2 l3) hsw (stB_ok C.hsc C.fk hs) rfl) ?_
      rintro D σ H ⟨F, α, ρ, M, R, S, h⟩
      rw [evS] at h
      refine rd h R S fun ds M1 F1 α1 us H1 g1 e1 s1 R1 S1 r1 hlen h1 => ?_
      have hul : us.length = is.length := by rw [← RVs.length r1, hlen]
      refine ⟨by rw [hul]; exact line_le hln, fun q hq => ⟨q, us, rfl, .inl (.inl upd_same), by rw [hul, l1], gNames_run hul ?_⟩⟩
      exact (WpX.adv (Ext.refl _) (Same.refl _) (Stp.updH hq) h1).done (R1.newH hq) _ (setS_sl r1 S1)
    · rename_i names hs
      simp only [Bool.and_eq_true, decide_eq_true_eq, List.all_eq_true] at hst
      obtain ⟨⟨⟨⟨h3, h2⟩, hnd⟩, rfl⟩, hloc⟩ := hst
      have hw := stB_ok C.hsc C.fk hs
      match is, l1, hp, hnd with
      | [], l1, _, _ => exfalso; rw [l1] at h2; simp at h2
      | [_], l1, _, _ => exfalso; rw [l1] at h2; simp at h2
      | [(i, m), (j, m')], l1, hp, hnd =>
        obtain ⟨pa, _, _, _, _, rd⟩ := par_parts C hp
        obtain ⟨a, es1, t1, ts1, v1, vs1, n1, q1, rfl, rfl, rfl, rfl, hi, li, pl1, pe1, ok1, hp1⟩ := par_cons C hp
        obtain ⟨b, es2, t2, ts2, v2, vs2, n2, q2, rfl, rfl, rfl, rfl, hj, lj, pl2, pe2, ok2, hp2⟩ := par_cons C hp1
        obtain ⟨rfl, rfl, rfl⟩ := par_nil hp2
        have hij : i ≠ j := by
          intro z
          subst z
          simp at hnd
        refine PS.imp (ps_par C.calm C.nd hi hj hij (by rw [C.hsc]; exact hloc n1 (by simp [tgNames, vName])) (by rw [C.hsc]; exact hloc n2 (by simp [tgNames, vName])) pa hw rfl) ?_
        rintro D σ H ⟨F, α, ρ, M, R, S, h⟩
        rw [evS] at h
        refine rd h R S fun ds M1 F1 α1 us H1 g1 e1 s1 R1 S1 r1 hlen h1 => ?_
        match ds, hlen, r1 with
        | [d1, d2], _, .cons a (.cons b .nil) => exact ⟨_, _, rfl, h1.done R1 _ (setS_sl (is := [(i, m), (j, m')]) (.cons a (.cons b .nil)) S1)⟩
      | [(i, m), (j, m'), (l, m'')], l1, hp, hnd =>
        obtain ⟨pa, _, _, _, _, rd⟩ := par_parts C hp
        obtain ⟨a, es1, t1, ts1, v1, vs1, n1, q1, rfl, rfl, rfl, rfl, hi, li, pl1, pe1, ok1, hp1⟩ := par_cons C hp
        obtain ⟨b, es2, t2, ts2, v2, vs2, n2, q2, rfl, rfl, rfl, rfl, hj, lj, pl2, pe2, ok2, hp2⟩ := par_cons C hp1
        obtain ⟨c, es3, t3, ts3, v3, vs3, n3, q3, rfl, rfl, rfl, rfl, hl, ll, pl3, pe3, ok3, hp3⟩ := par_cons C hp2
        obtain ⟨rfl, rfl, rfl⟩ := par_nil hp3
        have hij : i ≠ j := by
          intro z
          subst z
          simp at hnd
        have hil : i ≠ l := by
          intro z
          subst z
          simp at hnd
        have hjl : j ≠ l := by
          intro z
          subst z
          simp at hnd
        refine PS.imp (ps_par3 C.calm C.nd hi hj hl hij hil hjl (by rw [C.hsc]; exact hloc n1 (by simp [tgNames, vName])) (by rw [C.hsc]; exact hloc n2 (by simp [tgNames, vName])) (by rw [C.hsc]; exact hloc n3 (by simp [tgNames, vName])) pa hw rfl) ?_
        rintro D σ H ⟨F, α, ρ, M, R, S, h⟩
        rw [evS] at h
        refine rd h R S fun ds M1 F1 α1 us H1 g1 e1 s1 R1 S1 r1 hlen h1 => ?_
        match ds, hlen, r1 with
        | [d1, d2, d3], _, .cons a (.cons b (.cons c .nil)) => exact ⟨_, _, _, rfl, h1.done R1 _ (setS_sl (is := [(i, m), (j, m'), (l, m'')]) (.cons a (.cons b (.cons c .nil))) S1)⟩
      | _ :: _ :: _ :: _ :: _, l1, _, _ => exfalso; rw [l1] at h3; simp at h3
    · cases hst
  · cases h
end
end Ob

set_option Elab.async false
set_option linter.all false
set_option maxRecDepth 100000
set_option maxHeartbeats 8000000
namespace Ob
open PySem PySem.Spec PyProof.Rows L2
section
variable {G : Gx} {T : Tab} {N : List Str} {call : Nat → List D → Ms → Rs D} {W : XK} {X : Cx} {s0 sc : Scope} {wf : Nat}
theorem ps_asgS (C : Cok G T N call W X sc sc) {tg : Tg} {e : E} {st : Stmt} (h : mtS T N sc (.asg tg e) st = true) : PS X st (tevS G W call wf (.asg tg e)) := by
  unfold mtS at h
  split at h
  · rename_i t v pos
    split at h
    · rename_i i
      obtain ⟨ps, ok⟩ := ps_setM C h
      refine PS.imp ps ?_
      rintro D σ H ⟨F, α, ρ, M, R, S, h⟩
      rw [evS] at h
      exact tev_stepX h R S fun d M1 F1 v H1 e1 s1 R1 S1 r h1 => h1.done R1 _ (S1.set r)
    · rename_i ts
      simp only [Bool.and_eq_true, decide_eq_true_eq] at h
      obtain ⟨⟨h1, h2⟩, h3⟩ := h
      have hsw : swapsWithSole [t] v pos.line X.env = pure false := by
        show swapsWith v (some t) pos.line X.env = _
        rw [swB_ok C.hsc C.fk]
        unfold mtTg at h2
        split at h2
        · unfold swB
          split <;> rfl
        · cases h2
      refine PS.imp (ps_asg (snd_e e C v false h3 (fun q => by cases q)) (snd_tg C (.tp ts) t h2) hsw (stB_ok C.hsc C.fk h1) (by rw [tg_plain h2 [] X.env]; rfl)) ?_
      rintro D σ H ⟨F, α, ρ, M, R, S, h⟩
      rw [evS] at h
      refine tev_stepX h R S fun d M1 F1 v H1 e1 s1 R1 S1 r h1 => ?_
      split at h1
      · rename_i ρ1 hb
        exact ⟨F1, α, d, ρ, ρ1, R1.sub, r, S1, hb, fun σ' S' _ => h1.done R1 σ' S'⟩
      · exact h1.elim
  · cases h
theorem ps_newS (C : Cok G T N call W X sc sc) {i : Nat} {m : Md} {e : E} {st : Stmt} (h : mtS T N sc (.new i m e) st = true) : PS X st (tevS G W call wf (.new i m e)) := by
  unfold mtS at h
  split at h
  · rename_i t v pos
    obtain ⟨ps, ok⟩ := ps_setM C h
    refine PS.imp ps ?_
    rintro D σ H ⟨F, α, ρ, M, R, S, h⟩
    rw [evS] at h
    exact tevM_stepX ok h R S fun d M1 F1 α1 v H1 g1 e1 s1 R1 S1 r h1 => h1.done R1 _ (S1.set r)
  · cases h
/-- a loop's turns, the walk's own reading -/
theorem ps_forS (C : Cok G T N call W X sc sc) (po : PassesOwn (model X.prog X.w) X.A X.env X.xe) {tg : Tg} {it : E} {b : Ss} {st : Stmt} (h : mtS T N sc (.fors tg it b) st = true)
    (pb : ∀ sts, mtSs T N sc b sts = true → PSs X sts (tevSs G W call wf b)) : PS X st (tevS G W call wf (.fors tg it b)) := by
  unfold mtS at h
  split at h
  · rename_i t i body pos
    simp only [Bool.and_eq_true] at h
    obtain ⟨⟨⟨⟨h1, h2⟩, h3⟩, h4⟩, h5⟩ := h
    refine PS.imp (ps_for po C.calm (snd_i C it h1 h4 h3) (snd_tg C tg t h4) (pb _ h5) (fold_of _ h2)) ?_
    rintro Dn σ H ⟨F, α, ρ, M, R, S, h⟩
    rw [evS] at h
    refine ⟨F, α, ρ, M, R, S, ?_⟩
    cases eq : ev call it ρ M with
    | none => rw [eq] at h; exact h
    | some q =>
      rw [eq] at h
      cases q with
      | error x => exact exS.flat h
      | ok q =>
        obtain ⟨w, M1⟩ := q
        have h : WpX G W F α H (match itemsOf w with
          | some xs => forLoop (fbody call wf tg b) xs ρ M1
          | none => none) (PF G Dn) := h
        cases ei : itemsOf w with
        | none => rw [ei] at h; exact h.elim
        | some xs =>
          rw [ei] at h
          refine ⟨xs, ei, fun F' J H' e1 R1 s1 ok hl => ?_⟩
          have h := WpX.adv (Ext.refl _) e1 s1 h
          exact for_loop (Zz := fun r => WpX G W F' α H' r (PF G Dn)) (fun z => z) R1 (S.mono e1) (fun F2 α2 M2 H2 g2 e2 _ R2 b o q => R2.sub b o (e2 b o q)) ok
            (fun F2 α2 M2 H2 fl ρ2 g2 e2 s2 R2 h2 => h2 F2 α2 H2 g2 e2 R2 s2) (fun x z => z) h
  · cases h
theorem ps_forOS (C : Cok G T N call W X sc sc) (po : PassesOwn (model X.prog X.w) X.A X.env X.xe) {tg : Tg} {j : Nat} {b : Ss} {st : Stmt} (h : mtS T N sc (.forO tg j b) st = true)
    (pb : ∀ sts, mtSs T N sc b sts = true → PSs X sts (tevSs G W call wf b)) : PS X st (tevS G W call wf (.forO tg j b)) := by
  unfold mtS at h
  split at h
  · rename_i t i body pos
    simp only [Bool.and_eq_true] at h
    obtain ⟨⟨⟨h2, h3⟩, h4⟩, h5⟩ := h
    split at h3
    · rename_i n p hn
      have ei := vName_eq hn
      subst ei
      obtain ⟨q1, q2, q3, q4⟩ := C.slot h3
      refine PS.imp (ps_lock (ps_for po C.calm (pi_own q1 q2 q3 q4) (snd_tg C tg t h4) (pb _ h5) (fold_of _ h2))) ?_
      rintro Dn σ H ⟨F, α, ρ, M, R, S, h⟩
      rw [evS] at h
      split at h
      · rename_i n hn
        obtain ⟨v, hs, a, ha, rfl⟩ := S.getD hn
        split at h
        · rename_i xs M1 hlk
          have h : WpX G W F α H ((forLoop (fbody call wf tg b) xs ρ M1).bind fun f M2 => match unlockO M2 n with
            | some M3 => Rs.ok f M3
            | none => none) (PF G Dn) := h
          obtain ⟨u, mo, z, hu, mu, lk, rfl, hmo⟩ := lock_ok R ha hlk
          refine ⟨a, u, hu, mu, fun od => ?_⟩
          have hα : a ∈ α := List.mem_of_getElem? ha
          have R1 : Rp G F α (M.set n z) (upd H a (.frz od u)) := R.setM ha (hmo od)
          rw [C.kk]
          refine wOwn_of (α := α) lk hs upd_same fun J ok hl => ?_
          have rebase : ∀ {F2 : Hp} {α2 : List Addr} {H2 : Hp}, Ext α α2 → Stp F F2 α α2 (upd H a (.frz od u)) H2 → Stp F F2 α α2 H (upd H2 a u) := by
            intro F2 α2 H2 g st2
            refine ⟨fun b o hb hn => ?_, fun b xs hb ht hn => ?_, fun b o w hb => ?_⟩
            · have hba : b ≠ a := fun q => hn (q ▸ hα)
              obtain ⟨x1, x2⟩ := st2.un b o (by rw [upd_ne hba]; exact hb) hn
              exact ⟨by rw [upd_ne hba]; exact x1, x2⟩
            · have hba : b ≠ a := fun q => hn (q ▸ hα)
              exact st2.ff b _ (by rw [upd_ne hba]; exact hb) ht hn
            · have hba : b ≠ a := fun q => by rw [q, hu] at hb; cases hb; exact mu
              rw [upd_ne hba]
              exact st2.fz b o w (by rw [upd_ne hba]; exact hb)
          have hext : ∀ {α2 : List Addr}, Ext α α2 → α2[n]? = some a := by
            rintro _ ⟨r, rfl⟩
            rw [List.getElem?_append_left (List.getElem?_eq_some_iff.mp ha).1]; exact ha
          refine for_loop (Zz := fun r => WpX G W F α H (r.bind fun f M2 => match unlockO M2 n with
            | some M3 => Rs.ok f M3
            | none => none) (PF G Dn)) (fun z => z) R1 S (fun F2 α2 M2 H2 g2 e2 st2 R2 => st2.fz a od u upd_same) ok
            (fun F2 α2 M2 H2 fl ρ2 g2 e2 st2 R2 h2 => ?_) (fun x hx => ?_) h
          · have hu2 := st2.fz a od u upd_same
            have h2 : WpX G W F α H (match unlockO M2 n with
              | some M3 => Rs.ok (fl, ρ2) M3
              | none => none) (PF G Dn) := h2
            cases hul : unlockO M2 n with
            | none => rw [hul] at h2; exact h2.elim
            | some M7 =>
              rw [hul] at h2
              have R3 := unlock_ok R2 (hext g2) hu2 hul
              have h3 := h2 F2 α2 _ g2 e2 R3 (rebase g2 st2)
              cases fl with
              | nx => exact fun σ' S' => ⟨hu2, h3 σ' S'⟩
              | bk => exact fun σ' S' => ⟨hu2, h3 σ' S'⟩
              | ct => exact fun σ' S' => ⟨hu2, h3 σ' S'⟩
              | rt d => exact fun v r => ⟨hu2, h3 v r⟩
          · have hx : exS G W x F α H := hx
            have hst : Stp F F α α H (upd H a (.frz od u)) := Stp.setM hα hu mu
            exact exS.adv (Ext.refl _) (Same.refl _) hst hx
        · exact h.elim
      · exact h.elim
    · cases h3
  · cases h
mutual
theorem snd_S : ∀ (s : S) (C : Cok G T N call W X sc sc) (po : PassesOwn (model X.prog X.w) X.A X.env X.xe) (st : Stmt), mtS T N sc s st = true → PS X st (tevS G W call wf s)
  | .asg tg e, C, po, st, h => ps_asgS C h
  | .new i m e, C, po, st, h => ps_newS C h
  | .par is es, C, po, st, h => ps_parS C h
  | .put i k v, C, po, st, h => ps_putS C h
  | .aug i op e, C, po, st, h => ps_augS' C h
  | .app i e, C, po, st, h => ps_appS C h
  | .fors tg it b, C, po, st, h => ps_forS C po h fun sts z => snd_Ss b C po sts z
  | .forO tg it b, C, po, st, h => ps_forOS C po h fun sts z => snd_Ss b C po sts z
  | .ex e, C, po, st, h => by
    unfold mtS at h
    split at h
    · rename_i x pos
      simp only [Bool.and_eq_true] at h
      refine PS.imp (ps_expr (snd_e e C x false h.2 (fun q => by cases q)) (notComp_ok h.1 _ _)) ?_
      rintro Dn σ H ⟨F, α, ρ, M, R, S, h⟩
      rw [evS] at h
      exact tev_stepX h R S fun d1 M1 F1 v1 H1 e1 s1 R1 S1 r1 h1 => h1.done R1 σ S1
    · cases h
  | .ifs t a b, C, po, st, h => by
    unfold mtS at h
    split at h
    · rename_i c A B pos
      simp only [Bool.and_eq_true] at h
      obtain ⟨⟨⟨h1, h2⟩, h3⟩, h4⟩ := h
      refine PS.imp (ps_if (snd_t t C c h1 h2) (snd_Ss a C po A h3) (snd_Ss b C po B h4)) ?_
      rintro Dn σ H ⟨F, α, ρ, M, R, S, h⟩
      rw [evS] at h
      refine tevT_stepX (k1 := fun M1 => evSs call wf a ρ M1) (k0 := fun M1 => evSs call wf b ρ M1) h R S fun k M1 F1 H1 e1 s1 R1 S1 h1 => ?_
      cases k with
      | true => rw [if_pos rfl] at h1 ⊢; exact ⟨F1, α, ρ, M1, R1, S1, h1⟩
      | false => rw [if_neg (by decide)] at h1 ⊢; exact ⟨F1, α, ρ, M1, R1, S1, h1⟩
    · cases h
  | .whl t b, C, po, st, h => by
    unfold mtS at h
    split at h
    · simp only [Bool.and_eq_true] at h
      obtain ⟨⟨h1, h2⟩, h3⟩ := h
      refine PS.imp (ps_while po (snd_t t C _ h1 h2) (snd_Ss b C po _ h3)) ?_
      rintro Dn σ H ⟨F, α, ρ, M, R, S, h⟩
      rw [evS] at h
      exact whl_loop R S h
    · cases h
  | .ret e, C, po, st, h => by
    unfold mtS at h
    split at h
    · refine PS.imp (ps_ret (snd_e e C _ false h (fun q => by cases q))) ?_
      rintro Dn σ H ⟨F, α, ρ, M, R, S, h⟩
      rw [evS] at h
      exact tev_stepX h R S fun d1 M1 F1 v1 H1 e1 s1 R1 S1 r1 h1 => h1.done R1 _ r1
    · cases h
  | .retL e, C, po, st, h => by
    unfold mtS at h
    split at h
    · obtain ⟨pe, ok⟩ := snd_m C h
      refine PS.imp (ps_ret pe) ?_
      rintro Dn σ H ⟨F, α, ρ, M, R, S, h⟩
      rw [evS] at h
      exact tevM_stepX ok h R S fun d1 M1 F1 α1 v1 H1 g1 e1 s1 R1 S1 r1 h1 => h1.done R1 _ r1
    · cases h
  | .ret0, C, po, st, h => by
    unfold mtS at h
    split at h
    · refine PS.imp ps_retN ?_
      rintro Dn σ H ⟨F, α, ρ, M, R, S, h⟩
      rw [evS] at h
      exact h.done R _ .non
    · cases h
  | .brk, C, po, st, h => by
    unfold mtS at h
    split at h
    · refine PS.imp ps_break ?_
      rintro Dn σ H ⟨F, α, ρ, M, R, S, h⟩
      rw [evS] at h
      exact h.done R _ S
    · cases h
  | .cont, C, po, st, h => by
    unfold mtS at h
    split at h
    · refine PS.imp ps_continue ?_
      rintro Dn σ H ⟨F, α, ρ, M, R, S, h⟩
      rw [evS] at h
      exact h.done R _ S
    · cases h
  | .pass, C, po, st, h => by
    unfold mtS at h
    split at h
    · refine PS.imp ps_pass ?_
      rintro Dn σ H ⟨F, α, ρ, M, R, S, h⟩
      rw [evS] at h
      exact h.done R _ S
    · refine PS.imp ps_doc ?_
      rintro Dn σ H ⟨F, α, ρ, M, R, S, h⟩
      rw [evS] at h
      exact h.done R _ S
    · cases h
  | .rais _, C, po, st, h => by
    unfold mtS at h
    cases h
  | .nev, C, po, st, h => by
    refine PS.imp ps_never ?_
    rintro Dn σ H ⟨F, α, ρ, M, R, S, h⟩
    rw [evS] at h
    exact h.elim
theorem snd_Ss : ∀ (s : Ss) (C : Cok G T N call W X sc sc) (po : PassesOwn (model X.prog X.w) X.A X.env X.xe) (sts : List Stmt), mtSs T N sc s sts = true → PSs X sts (tevSs G W call wf s)
  | .nil, C, po, sts, h => by
    unfold mtSs at h
    cases sts with
    | nil =>
      refine PSs.imp pss_nil ?_
      rintro Dn σ H ⟨F, α, ρ, M, R, S, h⟩
      rw [evSs] at h
      exact h.done R _ S
    | cons a b => cases h
  | .cons a b, C, po, sts, h => by
    cases sts with
    | nil => unfold mtSs at h; cases h
    | cons st sts =>
      have h : (mtS T N sc a st && mtSs T N sc b sts) = true := h
      simp only [Bool.and_eq_true] at h
      refine PSs.imp (pss_cons (snd_S a C po st h.1) (snd_Ss b C po sts h.2)) ?_
      rintro Dn σ H ⟨F, α, ρ, M, R, S, h⟩
      rw [evSs] at h
      refine ⟨F, α, ρ, M, R, S, h.bind.imp fun F1 α1 M1 H1 f ⟨g1, e1, R1, s1, h1⟩ => ?_⟩
      obtain ⟨fl, ρ1⟩ := f
      cases fl with
      | nx => exact fun σ1 S1 => ⟨F1, α1, ρ1, M1, R1, S1, h1⟩
      | bk => exact fun σ1 S1 => h1.done R1 σ1 S1
      | ct => exact fun σ1 S1 => h1.done R1 σ1 S1
      | rt d => exact fun v r => h1.done R1 v r
end
end
end Ob

set_option Elab.async false
set_option linter.all false
set_option maxRecDepth 100000
set_option maxHeartbeats 8000000
/-! defs: the evaluator's calls are the program's -/
namespace Ob
open PySem PySem.Spec PyProof.Rows L2
section
variable {G : Gx} {W : XK}
theorem Rp.cut {F H : Hp} {α r : List Addr} {M : Ms} (R : Rp G F (α ++ r) M H) {n : Nat} (hn : n = α.length) : Rp G F α (M.take n) H := by
  subst hn
  have hl := R.len
  rw [List.length_append] at hl
  refine ⟨R.sub, by rw [List.length_take]; omega, (List.nodup_append.mp R.nd).1, fun a ha => R.off a (by simp [ha]), fun n a m h1 h2 => ?_⟩
  have hlt := (List.getElem?_eq_some_iff.mp h1).1
  rw [List.getElem?_take_of_lt hlt] at h2
  exact R.ok n a m (by rw [List.getElem?_append_left hlt]; exact h1) h2
theorem Stp.cut {F F' : Hp} {α r : List Addr} {H H' : Hp} (s : Stp F F' α (α ++ r) H H') : Stp F F' α α H H' := ⟨fun b o h n => ⟨(s.un b o h n).1, n⟩, s.ff, s.fz⟩
theorem paired_get {α β : Type} {R : α → β → Prop} : ∀ {xs : List α} {ys : List β}, Paired R xs ys → ∀ {i : Nat} {x : α}, xs[i]? = some x → ∃ y, ys[i]? = some y ∧ R x y
  | _, _, .nil, i, x, e => by simp at e
  | _, _, .cons h g, 0, x, e => by simp at e; subst e; exact ⟨_, rfl, h⟩
  | _, _, .cons h g, i + 1, x, e => by simpa using paired_get g (by simpa using e)
theorem start_sl {F : Hp} {α : List Addr} {ds : List D} {vs : List V} (r : RVs G F α ds vs) (N : List Str) : Sl G F α (ds.map some ++ List.replicate (N.length - ds.length) none) (L2.start N vs) := by
  have hl := RVs.length r
  unfold L2.start
  refine ⟨by simp [hl], fun i d e => ?_⟩
  by_cases hi : i < ds.length
  · rw [List.getElem?_append_left (by simpa using hi)] at e
    rw [List.getElem?_append_left (by simpa [← hl] using hi)]
    rw [List.getElem?_map] at e ⊢
    cases q : ds[i]? with
    | none => rw [q] at e; cases e
    | some x =>
      rw [q] at e
      obtain ⟨y, hy, ry⟩ := paired_get r q
      have : x = d := by simpa using e
      subst this
      exact ⟨y, by rw [hy]; rfl, ry⟩
  · rw [List.getElem?_append_right (by simpa using hi)] at e
    rw [List.getElem?_replicate] at e
    split at e <;> cases e
theorem evFn_succ {T : List Fd} {wf n f : Nat} {ds : List D} {M : Ms} {fd : Fd} (h : T[f]? = some fd) : evFn T wf (n + 1) f ds M = if ds.length = fd.ps.length then
      match evSs (evFn T wf n) wf fd.body (ds.map some ++ List.replicate (fd.N.length - ds.length) none) M with
      | none => none
      | some (.error x) => some (.error { x with M := x.M.take M.length })
      | some (.ok ((f, _), M1)) => match f with
        | .nx => if fd.nw = true then none else Rs.ok (.d .none) (M1.take M.length)
        | .rt x => match fin fd.nw M1 M.length x with
          | some y => Rs.ok y (M1.take M.length)
          | none => none
        | _ => none
    else none := by
  rw [evFn, h] <;> rfl
/-- what a body's end gives the caller -/
theorem fn_end {fd : Fd} {m : Bool} (hm : m = true → fd.nw = true) {F H : Hp} {α : List Addr} {M : Ms} {r : Rs (Fl × Rho)} {Q : VK} (R : Rp G F α M H)
    (h : WpE G W m F α H (match r with
      | none => none
      | some (.error x) => some (.error { x with M := x.M.take M.length })
      | some (.ok ((f, _), M1)) => match f with
        | .nx => if fd.nw = true then none else Rs.ok (.d .none) (M1.take M.length)
        | .rt x => match fin fd.nw M1 M.length x with
          | some y => Rs.ok y (M1.take M.length)
          | none => none
        | _ => none) Q) : WpX G W F α H r (PF G { nx := fun _ H' => Q .non H', rt := Q }) := by
  cases r with
  | none => exact h
  | some q =>
    cases q with
    | error x =>
      rintro F' α' H' ⟨r, rfl⟩ e R' s
      exact h F' H' e (R'.cut R.len.symm) s.cut
    | ok q =>
      obtain ⟨⟨fl, ρ'⟩, M1⟩ := q
      rintro F' α' H' ⟨r, rfl⟩ e R' s
      have Rc := R'.cut R.len.symm
      cases fl with
      | bk => exact h.elim
      | ct => exact h.elim
      | nx =>
        intro σ' S'
        have h : WpE G W m F α H (if fd.nw = true then none else Rs.ok (.d .none) (M1.take M.length)) Q := h
        split at h
        · exact h.elim
        · rename_i hnw
          cases m with
          | true => exact absurd (hm rfl) hnw
          | false => exact h F' .non H' e Rc s.cut .non
      | rt x =>
        intro v rv
        have h : WpE G W m F α H (match fin fd.nw M1 M.length x with
          | some y => Rs.ok y (M1.take M.length)
          | none => none) Q := h
        cases hf : fin fd.nw M1 M.length x with
        | none => rw [hf] at h; exact h.elim
        | some y =>
          rw [hf] at h
          unfold fin at hf
          split at hf
          · rename_i x
            split at hf
            · cases hf
            · rename_i hnw
              cases hf
              cases m with
              | true => exact absurd (hm rfl) hnw
              | false => exact h F' v H' e Rc s.cut rv
          · rename_i n
            split at hf
            · rename_i hlt
              split at hf
              · cases hf
              · rename_i hnw
                cases hf
                cases m with
                | true => exact absurd (hm rfl) hnw
                | false =>
                  refine h F' v H' e Rc s.cut ?_
                  obtain ⟨a, ha, rfl⟩ := rv
                  exact ⟨a, by rw [List.getElem?_append_left (by rw [R.len]; exact hlt)] at ha; exact ha, rfl⟩
            · rename_i hlt
              split at hf
              · rename_i xs hx
                cases hf
                obtain ⟨a, ha, rfl⟩ := rv
                obtain ⟨vs, hH, g⟩ := R'.ok n a _ ha hx
                have hr : a ∈ r := by
                  rw [List.getElem?_append_right (by rw [R.len]; omega)] at ha
                  exact List.mem_of_getElem? ha
                have hnα : a ∉ α := fun z => (List.nodup_append.mp R'.nd).2.2 a z a hr rfl
                have hF : F' a = none := R'.off a (by simp [hr])
                have hH0 : H a = none := by
                  cases q : H a with
                  | none => rfl
                  | some o => exact absurd (show a ∈ α ++ r by simp [hr]) (s.un a o q hnα).2
                cases m with
                | true =>
                    obtain ⟨ys, hd, h⟩ := h
                    cases hd
                    exact h F' a vs H' e Rc s.cut hH0 hH hF g
                | false =>
                  refine h (upd F' a (.lst vs)) (.ref a) H' (e.trans (same_upd hF)) (Rc.freeze hH hF hnα) ?_ (.lst upd_same (dqAll_mono (same_upd hF) g))
                  have sc := s.cut
                  exact ⟨sc.un, fun b xs hb ht hn => by rw [upd_ne (ne_of_none hb hH0)]; exact sc.ff b _ hb ht hn, sc.fz⟩
              · cases hf
          · cases hf
end
/-- what the row tells of a def -/
structure FdOk (K : PySem.W.Frag) (mg : Str → Option Value) (T : Tab) (fd : Fd) (a : Addr) : Prop where
  mg : mg fd.name = some (.ref a)
  fn : ∃ qual st fdata, Fun K fd.name qual st a fdata ∧ (∀ us : List Value, us.length = fd.ps.length → bindArgs fdata ⟨us, []⟩ = pure (fd.ps.zip us)) ∧ FnScope fd.N fd.ps (defScope st) ∧ mtSs T fd.N (defScope st) fd.body (defBody st) = true
structure TabOk (G : Gx) (mg : Str → Option Value) (T : Tab) : Prop where
  fds : ∀ f fd, T.fns[f]? = some fd → FdOk G.K mg T fd (G.fa f)
  consts : ∀ x i, T.consts.lookup x = some i → ∃ t, mg x = some (.int i t)
  blt : ∀ x ∈ bltNames, mg x = none
  gcd : T.gcd = true → mg "gcd" = some (.builtin "math.gcd")
theorem fn_step {G : Gx} {T : Tab} {P : Program} {w : World} {mg : Str → Option Value} {base : Heap} (O : TabOk G mg T) (wf k : Nat) (ih : FnsOk G T (evFn T.fns wf k) P w mg base k) {f : Nat} {fd : Fd} (h : T.fns[f]? = some fd)
    {qual : Str} {st : Stmt} {fdata : FuncData} (F : Fun G.K fd.name qual st (G.fa f) fdata) (S : FnScope fd.N fd.ps (defScope st)) (hmt : mtSs T fd.N (defScope st) fd.body (defBody st) = true) (m : Bool) (hm : m = true → fd.nw = true) :
    FnG P w G.K mg base (L2.CX P w) (k + 1) (G.fa f) fdata fd.ps (spEv G (evFn T.fns wf (k + 1)) f m) := by
  refine fnG_of F S ?_ ?_
  · rintro vs H Q E ⟨F0, α, M, ds, R, rs, z⟩
    rw [evFn_succ h] at z
    split at z
    · rename_i hl
      rw [← RVs.length rs]; exact hl
    · exact z.elim
  · rintro cdv A outer s H vs Q E gd hr ⟨F0, α, M, ds, R, rs, z⟩
    rw [evFn_succ h] at z
    split at z
    · rename_i hl
      have hx : (cxOf (L2.CX P w) P w G.K mg base fd.N qual (defScope st) (G.fa f) cdv A outer s H E).xe = fun e s' => wpAny (model P w) (A.deeper (envOfC qual (defScope st) s.heap.objs.size (G.fa f) cdv)) (leaving (envOfC qual (defScope st) s.heap.objs.size (G.fa f) cdv) e) (fun _ s'' => L2.CX P w outer H s E e s'') (fun e' s'' => L2.CX P w outer H s E e' s'') s' := rfl
      have tk : Takes (cxOf (L2.CX P w) P w G.K mg base fd.N qual (defScope st) (G.fa f) cdv A outer s H E) (fun cls d _ H => E cls d H) := takes_of rfl rfl rfl rfl
      have C : Cok G T fd.N (evFn T.fns wf k) E (cxOf (L2.CX P w) P w G.K mg base fd.N qual (defScope st) (G.fa f) cdv A outer s H E) (defScope st) (defScope st) := by
        refine ⟨rfl, S.nd, rfl, rfl, S.kind, fun x hx => ⟨?_, .inl rfl⟩, rfl, gd, (by have := hr.un; show (A.deeper _).units + 65 < cLine; omega), O.consts, O.blt, O.gcd, ⟨k, ih, hr, fun pins σ H s e s' I c => passes_call tk (fun _ _ _ _ z => z) pins σ H s e s' I c⟩⟩
        unfold locB at hx
        split at hx
        · exact .inl (by assumption)
        · exact .inr (by assumption)
        · cases hx
      exact ⟨_, snd_Ss (wf := wf) fd.body C (passes_of rfl) _ hmt, F0, α, _, M, R, start_sl rs fd.N, fn_end hm R z⟩
    · exact z.elim
theorem fns_ok {G : Gx} {T : Tab} {P : Program} {w : World} {mg : Str → Option Value} {base : Heap} (O : TabOk G mg T) (wf : Nat) : ∀ k, FnsOk G T (evFn T.fns wf k) P w mg base k := by
  intro k
  induction k with
  | zero =>
    refine ⟨fun f fd h => ?_⟩
    have o := O.fds f fd h
    obtain ⟨qual, st, fdata, F, B, S, hm⟩ := o.fn
    refine ⟨o.mg, F.kp, fdata, .all B, fun m hm => ⟨?_, ?_⟩⟩
    · rintro vs H Q E ⟨_, _, _, _, _, _, z⟩
      rw [evFn] at z
      exact z.elim
    · rintro A outer s H us vs Q E gd hr e0 hb r ⟨_, _, _, _, _, _, z⟩
      rw [evFn] at z
      exact z.elim
  | succ k ih =>
    refine ⟨fun f fd h => ?_⟩
    have o := O.fds f fd h
    obtain ⟨qual, st, fdata, F, B, S, hmt⟩ := o.fn
    exact ⟨o.mg, F.kp, fdata, .all B, fun m hm => fn_step O wf k ih h F S hmt m hm⟩
/-! ### the law -/
def spLawO (K : PySem.W.Frag) : Sp := fun vs H Q _ => ∃ (a : Addr) (ns : List Int), vs = [.ref a] ∧ SqL K H a (ns.map V.int) ∧ ns.length ≤ 63 ∧ ∀ v H', v = .bl true → Q v H'
theorem ints_dq (F : Hp) : ∀ ns : List Int, DqAll F (ns.map V.int) (ns.map PyData.int)
  | [] => .nil
  | n :: ns => .cons (.int n) (ints_dq F ns)
theorem law_ok {G : Gx} {T : Tab} {P : Program} {w : World} {mg : Str → Option Value} (O : TabOk G mg T) {wf k i : Nat} {fd : Fd} (h : T.fns[i]? = some fd)
    (hlaw : ∀ ns : List Int, ns.length ≤ 63 → evFn T.fns wf k i [.scr (ns.map .int)] [] = Rs.ok (.d (.bool true)) []) :
    ∃ fdata, (∀ us : List Value, us.length = fd.ps.length → bindArgs fdata ⟨us, []⟩ = pure (fd.ps.zip us)) ∧ ∀ base, FnG P w G.K mg base (L2.CX P w) k (G.fa i) fdata fd.ps (spLawO G.K) := by
  obtain ⟨qual, st, fdata, F, B, S, hmt⟩ := (O.fds i fd h).fn
  refine ⟨fdata, B, fun base => ?_⟩
  cases k with
  | zero =>
    have := hlaw [] (by decide)
    rw [evFn] at this
    cases this
  | succ k =>
  refine (fn_step (P := P) (w := w) (base := base) O wf k (fns_ok O wf k) h F S hmt false (fun z => by cases z)).imp ?_
  rintro vs H Q E ⟨a, ns, rfl, hS, hl, q⟩
  have key : ∃ F : Hp, Same F H ∧ SqL G.K F a (ns.map V.int) := by
    rcases hS with hS | hS
    · refine ⟨fun b => if b = a then H a else none, fun b o e => ?_, .inl ?_⟩
      · by_cases hb : b = a
        · subst hb; simpa using e
        · simp [hb] at e
      · rcases hS with e | ⟨o, e⟩
        · exact .inl (by simpa using e)
        · exact .inr ⟨o, by simpa using e⟩
    · exact ⟨fun _ => none, ⟨fun b o e => by (cases e), .inr hS⟩⟩
  obtain ⟨F0, e0, s0⟩ := key
  refine ⟨F0, [], [], [.scr (ns.map .int)], ⟨e0, rfl, List.nodup_nil, fun a ha => by simp at ha, fun n a m h1 _ => by simp at h1⟩, .cons ⟨a, _, rfl, s0, ints_dq F0 ns⟩ .nil, ?_⟩
  rw [hlaw ns hl]
  intro F' v H' _ _ _ r
  exact q v H' (rv_bool r)
end Ob

set_option Elab.async false
set_option linter.all false
set_option maxRecDepth 100000
set_option maxHeartbeats 8000000
/-! the row's facts of a def, as the layer wants them -/
namespace Ob
open PySem PySem.Spec PyProof.Rows L2
theorem fd_mk {K : PySem.W.Frag} {h : Heap} {mg : Str → Option Value} {T : Tab} {fd : Fd} {st : Stmt} {a : Addr} {oc : Value} {od an : Option Addr} {osl : Array (Option Value)} {kV doc pm cdv ct : Value} (X : K.In h) (Gn : h.Ns mainGlobals mg)
    (n : PySem.W.nsIn K mainGlobals fd.name = some (some (.ref a))) (l : K.lookup a = some ⟨oc, od, .func (PySem.W.fnOf fd.name fd.name (defArgs st) (defBody st) (defScope st) .none kV doc pm an cdv ct), osl⟩)
    (c : PySem.W.codeIn K cdv fd.name = true) (k : PySem.W.keepIn K (.ref a) = true) (S : FnScope fd.N fd.ps (defScope st)) (hm : mtSs T fd.N (defScope st) fd.body (defBody st) = true)
    (b : ∀ us : List Value, us.length = fd.ps.length → bindArgs (PySem.W.fnOf fd.name fd.name (defArgs st) (defBody st) (defScope st) .none kV doc pm an cdv ct) ⟨us, []⟩ = pure (fd.ps.zip us)) : FdOk K mg T fd a :=
  ⟨PySem.W.mg_of X Gn n, fd.name, st, _, fun_mk l c k, b, S, hm⟩
theorem fds_of {K : PySem.W.Frag} {mg : Str → Option Value} {T : Tab} {l : List Addr} {fs : List Fd} (h : Paired (fun fd a => FdOk K mg T fd a) fs l) : ∀ f fd, fs[f]? = some fd → FdOk K mg T fd (l.getD f 0) := by
  intro f fd e
  obtain ⟨a, ha, r⟩ := paired_get h e
  rw [List.getD_eq_getElem?_getD, ha]
  exact r
end Ob

set_option Elab.async false
set_option linter.all false
set_option maxRecDepth 100000
set_option maxHeartbeats 4000000
/-! the evaluator by rows that simp can use -/
namespace Ob
open PySem PySem.Spec PyProof.Rows L2
def br {α : Type} (d : D) (p q : Rs α) : Rs α := match d with
  | .d (.bool true) => p
  | .d (.bool false) => q
  | _ => none
@[simp] theorem br_t {α : Type} (p q : Rs α) : br (.d (.bool true)) p q = p := Eq.trans rfl rfl
@[simp] theorem br_f {α : Type} (p q : Rs α) : br (.d (.bool false)) p q = q := Eq.trans rfl rfl
theorem br_b {α : Type} (x : Bool) (p q : Rs α) : br (.d (.bool x)) p q = if x = true then p else q := by cases x <;> rfl
@[simp] theorem br_and (x : Bool) (y : Bool) (M : Ms) : br (.d (.bool x)) (Rs.ok (D.d (.bool y)) M) (Rs.ok (D.d (.bool false)) M) = Rs.ok (D.d (.bool (x && y))) M := by cases x <;> rfl
@[simp] theorem br_or (x : Bool) (y : Bool) (M : Ms) : br (.d (.bool x)) (Rs.ok (D.d (.bool true)) M) (Rs.ok (D.d (.bool y)) M) = Rs.ok (D.d (.bool (x || y))) M := by cases x <;> rfl
section
variable {call : Nat → List D → Ms → Rs D} {ρ : Rho} {M : Ms} {wf : Nat}
@[simp] theorem e_var (i : Nat) : ev call (.var i) ρ M = Rs.of (ρ.getD i none) M := by rw [ev]
@[simp] theorem e_int (i : Int) : ev call (.int i) ρ M = Rs.ok (.d (.int i)) M := by rw [ev]
@[simp] theorem e_bl (b : Bool) : ev call (.bl b) ρ M = Rs.ok (.d (.bool b)) M := by rw [ev]
@[simp] theorem e_non : ev call .non ρ M = Rs.ok (.d .none) M := by rw [ev]
@[simp] theorem e_str (s : Str) : ev call (.str s) ρ M = Rs.ok (.d (.str s)) M := by rw [ev]
@[simp] theorem e_gi (x : Str) (i : Int) : ev call (.gi x i) ρ M = Rs.ok (.d (.int i)) M := by rw [ev]
@[simp] theorem e_bin (op : Operator) (a b : E) : ev call (.bin op a b) ρ M = (ev call a ρ M).bind fun x M1 => (ev call b ρ M1).bind fun y M2 => oprD op x y M2 := by rw [ev]
def negD (x : D) (M : Ms) : Rs D := match x with
  | .d (.int i) => Rs.ok (.d (.int (-i))) M
  | _ => none
@[simp] theorem negD_i (i : Int) (M : Ms) : negD (.d (.int i)) M = Rs.ok (.d (.int (-i))) M := Eq.trans rfl rfl
@[simp] theorem e_neg (a : E) : ev call (.neg a) ρ M = (ev call a ρ M).bind negD := by rw [ev]; rfl
@[simp] theorem e_cmp (op : CmpOp) (a b : E) : ev call (.cmp op a b) ρ M = (ev call a ρ M).bind fun x M1 => (ev call b ρ M1).bind fun y M2 => cmpD op x y M2 := by rw [ev]
@[simp] theorem e_cmp2 (op op' : CmpOp) (a b c : E) : ev call (.cmp2 op op' a b c) ρ M = (ev call a ρ M).bind fun x M1 => (ev call b ρ M1).bind fun y M2 => (cmpD op x y M2).bind fun r M3 => br r ((ev call c ρ M3).bind fun z M4 => cmpD op' y z M4) (Rs.ok (.d (.bool false)) M3) := by rw [ev]; rfl
@[simp] theorem e_conj (a b : E) : ev call (.conj a b) ρ M = (ev call a ρ M).bind fun x M1 => br x (ev call b ρ M1) (Rs.ok (.d (.bool false)) M1) := by rw [ev]; rfl
@[simp] theorem e_disj (a b : E) : ev call (.disj a b) ρ M = (ev call a ρ M).bind fun x M1 => br x (Rs.ok (.d (.bool true)) M1) (ev call b ρ M1) := by rw [ev]; rfl
def notD (x : D) (M : Ms) : Rs D := match x with
  | .d (.bool b) => Rs.ok (.d (.bool (!b))) M
  | _ => none
@[simp] theorem notD_b (b : Bool) (M : Ms) : notD (.d (.bool b)) M = Rs.ok (.d (.bool (!b))) M := Eq.trans rfl rfl
@[simp] theorem e_not (a : E) : ev call (.not a) ρ M = (ev call a ρ M).bind notD := by rw [ev]; rfl
@[simp] theorem e_ite (t a b : E) : ev call (.ite t a b) ρ M = (ev call t ρ M).bind fun x M1 => br x (ev call a ρ M1) (ev call b ρ M1) := by rw [ev]; rfl
def seqMk (t : Bool) (xs : List D) (M : Ms) : Rs D := match datas xs with
  | some ys => if line ys.length = true then Rs.ok (.d (if t then .tuple ys else .list ys)) M else none
  | none => none
@[simp] theorem e_tup (es : Es) : ev call (.tup es) ρ M = (evs call es ρ M).bind (seqMk true) := by rw [ev]; rfl
@[simp] theorem e_lst (es : Es) : ev call (.lst es) ρ M = (evs call es ρ M).bind (seqMk false) := by rw [ev]; rfl
@[simp] theorem datas_nil : datas [] = some [] := Eq.trans rfl rfl
@[simp] theorem datas_cons (x : PyData) (r : List D) : datas (.d x :: r) = (datas r).map (x :: ·) := Eq.trans rfl rfl
@[simp] theorem e_ix (a b : E) : ev call (.ix a b) ρ M = (ev call a ρ M).bind fun x M1 => (ev call b ρ M1).bind fun y M2 => ixD x y M2 := by rw [ev]; rfl
theorem e_slc (a lo hi : E) : ev call (.slc a lo hi) ρ M = (ev call a ρ M).bind fun x M1 => (ev call lo ρ M1).bind fun l M2 => match partI lo l with
    | some l => (ev call hi ρ M2).bind fun h M3 => match partI hi h with
      | some h => slD x l h M3
      | none => none
    | none => none := by rw [ev] <;> rfl
def revD (x : D) (M : Ms) : Rs D := match view M x with
  | some (.list xs) => Rs.ok (.d (.list xs.reverse)) M
  | some (.tuple xs) => Rs.ok (.d (.tuple xs.reverse)) M
  | _ => none
@[simp] theorem revD_l (xs : List PyData) (M : Ms) : revD (.d (.list xs)) M = Rs.ok (.d (.list xs.reverse)) M := Eq.trans rfl rfl
@[simp] theorem revD_t (xs : List PyData) (M : Ms) : revD (.d (.tuple xs)) M = Rs.ok (.d (.tuple xs.reverse)) M := Eq.trans rfl rfl
@[simp] theorem e_rev (a : E) : ev call (.rev a) ρ M = (ev call a ρ M).bind revD := by rw [ev]; rfl
@[simp] theorem e_nop : ev call .nop ρ M = Rs.ok (.d (.bool true)) M := by rw [ev]
@[simp] theorem e_call (f : Nat) (es : Es) : ev call (.call f es) ρ M = (evs call es ρ M).bind fun xs M1 => call f xs M1 := by rw [ev]
@[simp] theorem e_blt (b : Bt) (es : Es) : ev call (.blt b es) ρ M = (evs call es ρ M).bind fun xs M1 => Rs.of ((callOp b xs M1).map .d) M1 := by rw [ev]
def isiD (t : Ty) (x : D) (M : Ms) : Rs D := match x with
  | .d x => Rs.ok (.d (.bool (isTy t x))) M
  | _ => none
@[simp] theorem isiD_d (t : Ty) (x : PyData) (M : Ms) : isiD t (.d x) M = Rs.ok (.d (.bool (isTy t x))) M := Eq.trans rfl rfl
@[simp] theorem e_isi (a : E) (t : Ty) : ev call (.isi a t) ρ M = (ev call a ρ M).bind (isiD t) := by rw [ev]; rfl
def lcM (call : Nat → List D → Ms → Rs D) (elt : E) (tg : Tg) (cond : E) (vs : List Nat) (ρ : Rho) (w : D) (M1 : Ms) : Rs D := match itemsOf w with
  | some xs => (lcLoop (lcBody call elt tg cond vs ρ) xs M1).bind fun ys M6 => Rs.ok (.d (.list ys)) M6
  | none => none
@[simp] theorem e_lc (elt : E) (tg : Tg) (it cond : E) (vs : List Nat) : ev call (.lc elt tg it cond vs) ρ M = (ev call it ρ M).bind (lcM call elt tg cond vs ρ) := by rw [ev]; rfl
def rngM (xs : List D) (M1 : Ms) : Rs D := Rs.of ((rangeOf xs).map .its) M1
@[simp] theorem e_rng (es : Es) : ev call (.rng es) ρ M = (evs call es ρ M).bind rngM := by rw [ev]; rfl
@[simp] theorem es_nil : evs call .nil ρ M = Rs.ok [] M := by rw [evs]
@[simp] theorem es_cons (e : E) (es : Es) : evs call (.cons e es) ρ M = (ev call e ρ M).bind fun x M1 => (evs call es ρ M1).bind fun xs M2 => Rs.ok (x :: xs) M2 := by rw [evs]
/-! statements -/
@[simp] theorem s_asg1 (i : Nat) (e : E) : evS call wf (.asg (.nm i) e) ρ M = (ev call e ρ M).bind fun x M1 => Rs.ok (.nx, ρ.set i (some x)) M1 := by rw [evS]; rfl
theorem s_asg (tg : Tg) (e : E) : evS call wf (.asg tg e) ρ M = (ev call e ρ M).bind fun x M1 => match bindTg tg x ρ with
    | some ρ1 => Rs.ok (.nx, ρ1) M1
    | none => none := by rw [evS] <;> rfl
@[simp] theorem s_new (i : Nat) (m : Md) (e : E) : evS call wf (.new i m e) ρ M = (evM call m e ρ M).bind fun x M1 => Rs.ok (.nx, ρ.set i (some x)) M1 := by rw [evS]
@[simp] theorem s_par (is : List (Nat × Md)) (es : Es) : evS call wf (.par is es) ρ M = (evPar call is es ρ M).bind fun xs M1 => Rs.ok (.nx, setAll is xs ρ) M1 := by rw [evS]
@[simp] theorem p_nil : evPar call [] .nil ρ M = Rs.ok [] M := Eq.trans rfl rfl
@[simp] theorem p_cons {i : Nat} {m : Md} {is : List (Nat × Md)} {e : E} {es : Es} : evPar call ((i, m) :: is) (.cons e es) ρ M = (evM call m e ρ M).bind fun x M1 => (evPar call is es ρ M1).bind fun xs M2 => Rs.ok (x :: xs) M2 := Eq.trans rfl rfl
@[simp] theorem m_v (e : E) : evM call .v e ρ M = ev call e ρ M := by
  unfold evM
  cases ev call e ρ M with
  | none => rfl
  | some q => cases q <;> rfl
def layL (x : D) (M : Ms) : Rs D := match x with
  | .d (.list xs) => Rs.ok (.own M.length) (M ++ [.lst xs])
  | _ => none
@[simp] theorem layL_l (xs : List PyData) (M : Ms) : layL (.d (.list xs)) M = Rs.ok (.own M.length) (M ++ [.lst xs]) := Eq.trans rfl rfl
@[simp] theorem m_l (e : E) : evM call .l e ρ M = (ev call e ρ M).bind layL := by
  unfold evM
  congr 1
  funext x M1
  cases x with
  | d x => cases x <;> rfl
  | _ => rfl
@[simp] theorem m_k : evM call .k (.dct .nil .nil) ρ M = Rs.ok (.own M.length) (M ++ [.dK []]) := by
  unfold evM; rw [ev, evs]; rfl
@[simp] theorem m_t : evM call .t (.dct .nil .nil) ρ M = Rs.ok (.own M.length) (M ++ [.dT []]) := by
  unfold evM; rw [ev, evs]; rfl
@[simp] theorem sA_nil (xs : List D) : setAll [] xs ρ = ρ := Eq.trans rfl rfl
@[simp] theorem sA_cons (i : Nat) (m : Md) (is : List (Nat × Md)) (x : D) (xs : List D) : setAll ((i, m) :: is) (x :: xs) ρ = setAll is xs (ρ.set i (some x)) := Eq.trans rfl rfl
def putR (x y z : D) (ρ : Rho) (M : Ms) : Rs (Fl × Rho) := match y, z with
  | .d y, .d z => match putM M x y z with
    | some M4 => Rs.ok (.nx, ρ) M4
    | none => none
  | _, _ => none
theorem s_put (i : Nat) (k v : E) {x : D} (h : ρ.getD i none = some x) : evS call wf (.put i k v) ρ M = (ev call v ρ M).bind fun z M1 => (ev call k ρ M1).bind fun y M3 => putR x y z ρ M3 := by
  rw [evS, h]
  rfl
@[simp] theorem s_ex (e : E) : evS call wf (.ex e) ρ M = (ev call e ρ M).bind fun _ M1 => Rs.ok (.nx, ρ) M1 := by rw [evS]
@[simp] theorem s_ifs (t : E) (a b : Ss) : evS call wf (.ifs t a b) ρ M = (ev call t ρ M).bind fun c M1 => br c (evSs call wf a ρ M1) (evSs call wf b ρ M1) := by rw [evS]; rfl
@[simp] theorem s_ret (e : E) : evS call wf (.ret e) ρ M = (ev call e ρ M).bind fun x M1 => Rs.ok (.rt x, ρ) M1 := by rw [evS]
@[simp] theorem s_retL (e : E) : evS call wf (.retL e) ρ M = (evM call .l e ρ M).bind fun x M1 => Rs.ok (.rt x, ρ) M1 := by rw [evS]
@[simp] theorem s_ret0 : evS call wf .ret0 ρ M = Rs.ok (.rt (.d .none), ρ) M := by rw [evS]
@[simp] theorem s_nev : evS call wf .nev ρ M = none := by rw [evS]
@[simp] theorem s_pass : evS call wf .pass ρ M = Rs.ok (.nx, ρ) M := by rw [evS]
@[simp] theorem s_brk : evS call wf .brk ρ M = Rs.ok (.bk, ρ) M := by rw [evS]
@[simp] theorem s_cont : evS call wf .cont ρ M = Rs.ok (.ct, ρ) M := by rw [evS]
def forM' (call : Nat → List D → Ms → Rs D) (wf : Nat) (tg : Tg) (b : Ss) (ρ : Rho) (w : D) (M1 : Ms) : Rs (Fl × Rho) := match itemsOf w with
  | some xs => forLoop (fbody call wf tg b) xs ρ M1
  | none => none
@[simp] theorem s_fors (tg : Tg) (it : E) (b : Ss) : evS call wf (.fors tg it b) ρ M = (ev call it ρ M).bind (forM' call wf tg b ρ) := by rw [evS]; rfl
@[simp] theorem ss_nil : evSs call wf .nil ρ M = Rs.ok (.nx, ρ) M := by rw [evSs]
/-- what follows a statement -/
def nxt (call : Nat → List D → Ms → Rs D) (wf : Nat) (b : Ss) (f : Fl × Rho) (M : Ms) : Rs (Fl × Rho) := match f with
  | (.nx, ρ1) => evSs call wf b ρ1 M
  | (f, ρ1) => Rs.ok (f, ρ1) M
@[simp] theorem nxt_nx (b : Ss) : nxt call wf b (.nx, ρ) M = evSs call wf b ρ M := Eq.trans rfl rfl
@[simp] theorem nxt_rt (b : Ss) (d : D) : nxt call wf b (.rt d, ρ) M = Rs.ok (.rt d, ρ) M := Eq.trans rfl rfl
@[simp] theorem nxt_bk (b : Ss) : nxt call wf b (.bk, ρ) M = Rs.ok (.bk, ρ) M := Eq.trans rfl rfl
@[simp] theorem nxt_ct (b : Ss) : nxt call wf b (.ct, ρ) M = Rs.ok (.ct, ρ) M := Eq.trans rfl rfl
@[simp] theorem ss_cons (a : S) (b : Ss) : evSs call wf (.cons a b) ρ M = (evS call wf a ρ M).bind (nxt call wf b) := by
  rw [evSs]
  rfl
end
/-! a def's end -/
def endF (nw : Bool) (n : Nat) (r : Rs (Fl × Rho)) : Rs D := match r with
  | none => none
  | some (.error x) => some (.error { x with M := x.M.take n })
  | some (.ok ((f, _), M1)) => match f with
    | .nx => if nw = true then none else Rs.ok (.d .none) (M1.take n)
    | .rt x => match fin nw M1 n x with
      | some y => Rs.ok y (M1.take n)
      | none => none
    | _ => none
@[simp] theorem endF_d (n : Nat) (x : PyData) (ρ : Rho) (M : Ms) : endF false n (Rs.ok (.rt (.d x), ρ) M) = Rs.ok (.d x) (M.take n) := Eq.trans rfl rfl
@[simp] theorem endF_nx (n : Nat) (ρ : Rho) (M : Ms) : endF false n (Rs.ok (.nx, ρ) M) = Rs.ok (.d .none) (M.take n) := Eq.trans rfl rfl
theorem endF_l {nw : Bool} {n k : Nat} {xs : List PyData} {ρ : Rho} {M : Ms} (h : n ≤ k) (e : M[k]? = some (.lst xs)) : endF nw n (Rs.ok (.rt (.own k), ρ) M) = Rs.ok (.d (.list xs)) (M.take n) := by
  have hk : ¬ k < n := by omega
  simp [endF, Rs.ok, fin, hk, e]
@[simp] theorem endF_new (nw : Bool) (xs : List PyData) (ρ : Rho) (M : Ms) : endF nw M.length (Rs.ok (.rt (.own M.length), ρ) (M ++ [.lst xs])) = Rs.ok (.d (.list xs)) M := by
  rw [endF_l (xs := xs) (Nat.le_refl _) (by simp)]
  simp
theorem evF {T : List Fd} {wf n f : Nat} {ds : List D} {M : Ms} (fd : Fd) (h : T[f]? = some fd) (hl : ds.length = fd.ps.length) : evFn T wf (n + 1) f ds M = endF fd.nw M.length (evSs (evFn T wf n) wf fd.body (ds.map some ++ List.replicate (fd.N.length - ds.length) none) M) := by
  rw [evFn_succ h, if_pos hl]
  rfl
/-! values -/
@[simp] theorem view_d (M : Ms) (x : PyData) : view M (.d x) = some x := Eq.trans rfl rfl
@[simp] theorem o_add (i j : Int) (M : Ms) : oprD .Add (.d (.int i)) (.d (.int j)) M = Rs.ok (.d (.int (i + j))) M := Eq.trans rfl rfl
@[simp] theorem o_sub (i j : Int) (M : Ms) : oprD .Sub (.d (.int i)) (.d (.int j)) M = Rs.ok (.d (.int (i - j))) M := Eq.trans rfl rfl
theorem o_mul {i j : Int} (M : Ms) (h : (-(2 ^ 64) < i ∧ i < 2 ^ 64) ∨ (-(2 ^ 64) < j ∧ j < 2 ^ 64)) : oprD .Mult (.d (.int i)) (.d (.int j)) M = Rs.ok (.d (.int (i * j))) M := by
  have : mulOk i j = true := by
    unfold mulOk
    exact decide_eq_true (h.elim .inl fun z => .inr (.inl z))
  simp [oprD, opr, this]
theorem o_fdiv {i j : Int} (M : Ms) (h : 0 < j) (h2 : j < 18446744073709551616) : oprD .FloorDiv (.d (.int i)) (.d (.int j)) M = Rs.ok (.d (.int (i / j))) M := by
  have h3 : j.natAbs.log2 < 9000 := by
    have : j.natAbs < 2 ^ 64 := by omega
    have h0 : j.natAbs ≠ 0 := by omega
    have := (Nat.log2_lt h0).mpr this
    omega
  have h4 : j ≠ 0 := by omega
  simp [oprD, opr, h, h3, h4]
theorem o_mod {i j : Int} (M : Ms) (h : 0 < j) : oprD .Mod (.d (.int i)) (.d (.int j)) M = Rs.ok (.d (.int (i % j))) M := by
  have h4 : j ≠ 0 := by omega
  simp [oprD, opr, h, h4]
theorem o_pow {i : Int} {k : Nat} (M : Ms) (h : i.natAbs < 2 ^ 64) (h2 : k ≤ 1000000) : oprD .Pow (.d (.int i)) (.d (.int (k : Nat))) M = Rs.ok (.d (.int (i ^ k))) M := by
  have h3 : (k : Int) ≤ 1000000 := by omega
  simp [oprD, opr, h, h3]
theorem o_catT {xs ys : List PyData} (M : Ms) (h : xs.length + ys.length ≤ 16777216) : oprD .Add (.d (.tuple xs)) (.d (.tuple ys)) M = Rs.ok (.d (.tuple (xs ++ ys))) M := by simp [oprD, opr, line, h]
theorem o_catL {xs ys : List PyData} (M : Ms) (h : xs.length + ys.length ≤ 16777216) : oprD .Add (.d (.list xs)) (.d (.list ys)) M = Rs.ok (.d (.list (xs ++ ys))) M := by simp [oprD, opr, line, h]
@[simp] theorem c_lt (i j : Int) (M : Ms) : cmpD .Lt (.d (.int i)) (.d (.int j)) M = Rs.ok (.d (.bool (decide (i < j)))) M := Eq.trans rfl rfl
@[simp] theorem c_le (i j : Int) (M : Ms) : cmpD .LtE (.d (.int i)) (.d (.int j)) M = Rs.ok (.d (.bool (decide (i ≤ j)))) M := Eq.trans rfl rfl
@[simp] theorem c_gt (i j : Int) (M : Ms) : cmpD .Gt (.d (.int i)) (.d (.int j)) M = Rs.ok (.d (.bool (decide (j < i)))) M := Eq.trans rfl rfl
@[simp] theorem c_ge (i j : Int) (M : Ms) : cmpD .GtE (.d (.int i)) (.d (.int j)) M = Rs.ok (.d (.bool (decide (j ≤ i)))) M := Eq.trans rfl rfl
theorem shp_int (i : Int) : shp (.int i) = true := by simp [shp, SeqAt.shaped, PyData.canLay0, PyData.depth]
theorem shp_of {x : PyData} (h1 : x.canLay0 = true) (h2 : x.depth ≤ 64) : shp x = true := by simp [shp, SeqAt.shaped, h1, h2]
theorem eqO_of {x y : PyData} (hx : shp x = true) (hy : shp y = true) : eqO x y = some (PyData.eqv x y) := by
  unfold eqO
  split
  · rename_i a b
    rw [PyData.eqv]
    by_cases h : a = b <;> simp [h]
  · simp [hx, hy]
theorem c_eq {x y : PyData} (M : Ms) (hx : shp x = true) (hy : shp y = true) : cmpD .Eq (.d x) (.d y) M = Rs.ok (.d (.bool (PyData.eqv x y))) M := by simp [cmpD, cmpr, eqO_of hx hy]
theorem c_ne {x y : PyData} (M : Ms) (hx : shp x = true) (hy : shp y = true) : cmpD .NotEq (.d x) (.d y) M = Rs.ok (.d (.bool (!PyData.eqv x y))) M := by simp [cmpD, cmpr, eqO_of hx hy]
theorem beqI (i j : Int) : (i == j) = decide (i = j) := by
  by_cases h : i = j <;> simp [h]
@[simp] theorem c_eqi (i j : Int) (M : Ms) : cmpD .Eq (.d (.int i)) (.d (.int j)) M = Rs.ok (.d (.bool (decide (i = j)))) M := by
  rw [c_eq M (shp_int i) (shp_int j)]
  rw [PyData.eqv, beqI]
@[simp] theorem c_nei (i j : Int) (M : Ms) : cmpD .NotEq (.d (.int i)) (.d (.int j)) M = Rs.ok (.d (.bool (!decide (i = j)))) M := by
  rw [c_ne M (shp_int i) (shp_int j)]
  rw [PyData.eqv, beqI]
theorem c_is (x y : PyData) (M : Ms) : cmpD .Is (.d x) (.d y) M = Rs.of ((isC x y).map fun b => .d (.bool b)) M := rfl
theorem c_isn (x y : PyData) (M : Ms) : cmpD .IsNot (.d x) (.d y) M = Rs.of ((isC x y).map fun b => .d (.bool (!b))) M := rfl
@[simp] theorem isC_none (x : PyData) : isC x .none = some (match x with
  | .none => true
  | _ => false) := by cases x <;> rfl
@[simp] theorem isC_bool (x : PyData) (b : Bool) : isC x (.bool b) = some (match x with
  | .bool a => a == b
  | _ => false) := by cases x <;> rfl
/-! places -/
theorem atI_nat {α : Type} {xs : List α} {k : Nat} : atI xs ((k : Nat) : Int) = xs[k]? := by
  unfold atI ixN
  rw [if_pos (by omega)]
  by_cases h : k < xs.length
  · rw [if_pos (by omega)]; simp
  · rw [if_neg (by omega)]; simp; omega
theorem ix_t {xs : List PyData} {k : Nat} {y : PyData} (M : Ms) (h : xs[k]? = some y) : ixD (.d (.tuple xs)) (.d (.int (k : Nat))) M = Rs.ok (.d y) M := by
  simp [ixD, idx, atI_nat, h]
theorem ix_l {xs : List PyData} {k : Nat} {y : PyData} (M : Ms) (h : xs[k]? = some y) : ixD (.d (.list xs)) (.d (.int (k : Nat))) M = Rs.ok (.d y) M := by
  simp [ixD, idx, atI_nat, h]
@[simp] theorem ix_t0 (x : PyData) (xs : List PyData) (M : Ms) : ixD (.d (.tuple (x :: xs))) (.d (.int 0)) M = Rs.ok (.d x) M := ix_t (k := 0) M rfl
@[simp] theorem ix_t1 (x y : PyData) (xs : List PyData) (M : Ms) : ixD (.d (.tuple (x :: y :: xs))) (.d (.int 1)) M = Rs.ok (.d y) M := ix_t (k := 1) M rfl
@[simp] theorem ix_t2 (x y z : PyData) (xs : List PyData) (M : Ms) : ixD (.d (.tuple (x :: y :: z :: xs))) (.d (.int 2)) M = Rs.ok (.d z) M := ix_t (k := 2) M rfl
@[simp] theorem ix_l0 (x : PyData) (xs : List PyData) (M : Ms) : ixD (.d (.list (x :: xs))) (.d (.int 0)) M = Rs.ok (.d x) M := ix_l (k := 0) M rfl
@[simp] theorem ix_l1 (x y : PyData) (xs : List PyData) (M : Ms) : ixD (.d (.list (x :: y :: xs))) (.d (.int 1)) M = Rs.ok (.d y) M := ix_l (k := 1) M rfl
theorem ix_o {n k : Nat} {xs : List PyData} {y : PyData} {M : Ms} (hm : M[n]? = some (.lst xs)) (h : xs[k]? = some y) : ixD (.own n) (.d (.int (k : Nat))) M = Rs.ok (.d y) M := by
  simp [ixD, Ob.view, hm, idx, atI_nat, h]
/-- the cup stands first -/
def cupM (c : Int × Int) : MO := .lst [.int c.1, .int c.2]
@[simp] theorem ix_c0 (c : Int × Int) (R : Ms) : ixD (.own 0) (.d (.int 0)) (cupM c :: R) = Rs.ok (.d (.int c.1)) (cupM c :: R) := ix_o (k := 0) (M := cupM c :: R) rfl rfl
@[simp] theorem ix_c1 (c : Int × Int) (R : Ms) : ixD (.own 0) (.d (.int 1)) (cupM c :: R) = Rs.ok (.d (.int c.2)) (cupM c :: R) := ix_o (k := 1) (M := cupM c :: R) rfl rfl
@[simp] theorem put_c0 (c : Int × Int) (v : Int) (ρ : Rho) (R : Ms) : putR (.own 0) (.d (.int 0)) (.d (.int v)) ρ (cupM c :: R) = Rs.ok (.nx, ρ) (cupM (v, c.2) :: R) := Eq.trans rfl rfl
@[simp] theorem put_c1 (c : Int × Int) (v : Int) (ρ : Rho) (R : Ms) : putR (.own 0) (.d (.int 1)) (.d (.int v)) ρ (cupM c :: R) = Rs.ok (.nx, ρ) (cupM (c.1, v) :: R) := Eq.trans rfl rfl
@[simp] theorem b_int (i : Int) (M : Ms) : callOp .int [.d (.int i)] M = some (.int i) := Eq.trans rfl rfl
@[simp] theorem b_abs (i : Int) (M : Ms) : callOp .abs [.d (.int i)] M = some (.int (if i < 0 then -i else i)) := Eq.trans rfl rfl
@[simp] theorem b_lenT (xs : List PyData) (M : Ms) : callOp .len [.d (.tuple xs)] M = some (.int xs.length) := Eq.trans rfl rfl
@[simp] theorem b_lenL (xs : List PyData) (M : Ms) : callOp .len [.d (.list xs)] M = some (.int xs.length) := Eq.trans rfl rfl
@[simp] theorem b_tupL (xs : List PyData) (M : Ms) : callOp .tuple [.d (.list xs)] M = some (.tuple xs) := Eq.trans rfl rfl
@[simp] theorem b_tupT (xs : List PyData) (M : Ms) : callOp .tuple [.d (.tuple xs)] M = some (.tuple xs) := Eq.trans rfl rfl
@[simp] theorem b_lstL (xs : List PyData) (M : Ms) : callOp .list [.d (.list xs)] M = some (.list xs) := Eq.trans rfl rfl
@[simp] theorem b_lstT (xs : List PyData) (M : Ms) : callOp .list [.d (.tuple xs)] M = some (.list xs) := Eq.trans rfl rfl
@[simp] theorem b_lstS (xs : List PyData) (M : Ms) : callOp .list [.scr xs] M = some (.list xs) := Eq.trans rfl rfl
@[simp] theorem b_min2 (i j : Int) (M : Ms) : callOp .min2 [.d (.int i), .d (.int j)] M = some (.int (if j < i then j else i)) := Eq.trans rfl rfl
@[simp] theorem b_max2 (i j : Int) (M : Ms) : callOp .max2 [.d (.int i), .d (.int j)] M = some (.int (if j > i then j else i)) := Eq.trans rfl rfl
theorem bools_map {α : Type} (f : α → Bool) : ∀ xs : List α, boolsOf (xs.map fun x => .bool (f x)) = some (xs.map f)
  | [] => rfl
  | x :: xs => by simp [boolsOf, bools_map f xs]
theorem b_all {α : Type} (f : α → Bool) (xs : List α) (M : Ms) : callOp .all [.d (.list (xs.map fun x => .bool (f x)))] M = some (.bool (xs.all f)) := by
  show bltn .all [.list (xs.map fun x => .bool (f x))] = _
  simp [bltn, bools_map]
theorem b_any {α : Type} (f : α → Bool) (xs : List α) (M : Ms) : callOp .any [.d (.list (xs.map fun x => .bool (f x)))] M = some (.bool (xs.any f)) := by
  show bltn .any [.list (xs.map fun x => .bool (f x))] = _
  simp [bltn, bools_map]
/-! loops -/
theorem forLoop_inv {body : D → Rho → Ms → Rs (Fl × Rho)} : ∀ {xs : List D} (I : Nat → Rho → Ms → Prop) {ρ : Rho} {M : Ms}, I 0 ρ M → (∀ i x ρ M, xs[i]? = some x → I i ρ M → ∃ ρ' M', body x ρ M = Rs.ok (.nx, ρ') M' ∧ I (i + 1) ρ' M') →
    ∃ ρ' M', forLoop body xs ρ M = Rs.ok (.nx, ρ') M' ∧ I xs.length ρ' M'
  | [], I, ρ, M, h0, _ => ⟨ρ, M, by rw [forLoop], h0⟩
  | x :: xs, I, ρ, M, h0, step => by
    obtain ⟨ρ1, M1, e1, h1⟩ := step 0 x ρ M rfl h0
    obtain ⟨ρ2, M2, e2, h2⟩ := forLoop_inv (xs := xs) (fun i => I (i + 1)) h1 fun i y ρ M hy hi => step (i + 1) y ρ M (by simpa using hy) hi
    exact ⟨ρ2, M2, by rw [forLoop, e1]; exact e2, by simpa using h2⟩
theorem lcLoop_pure {body : D → Ms → Rs (Option PyData)} {g : D → Option PyData} {M : Ms} : ∀ {xs : List D}, (∀ x ∈ xs, body x M = Rs.ok (g x) M) → lcLoop body xs M = Rs.ok (xs.filterMap g) M
  | [], _ => by rw [lcLoop]; rfl
  | x :: xs, h => by
    rw [lcLoop, h x (by simp), Rs.bind_ok, lcLoop_pure (fun y hy => h y (by simp [hy])), Rs.bind_ok, List.filterMap_cons]
    cases g x <;> rfl
theorem lcLoop_inv {body : D → Ms → Rs (Option PyData)} : ∀ {xs : List D} (I : Nat → List PyData → Ms → Prop) {M : Ms} {acc : List PyData}, I 0 acc M → (∀ i x acc M, xs[i]? = some x → I i acc M → ∃ o M', body x M = Rs.ok o M' ∧ I (i + 1) (acc ++ consO o []) M') →
    ∃ ys M', lcLoop body xs M = Rs.ok ys M' ∧ I xs.length (acc ++ ys) M'
  | [], I, M, acc, h0, _ => ⟨[], M, by rw [lcLoop], by simpa using h0⟩
  | x :: xs, I, M, acc, h0, step => by
    obtain ⟨o, M1, e1, h1⟩ := step 0 x acc M rfl h0
    obtain ⟨ys, M2, e2, h2⟩ := lcLoop_inv (xs := xs) (fun i => I (i + 1)) h1 fun i y acc M hy hi => step (i + 1) y acc M (by simpa using hy) hi
    refine ⟨consO o ys, M2, by rw [lcLoop, e1, Rs.bind_ok, e2, Rs.bind_ok], ?_⟩
    cases o with
    | none => simpa [consO] using h2
    | some y => simpa [consO, List.append_assoc] using h2
end Ob

set_option Elab.async false
set_option linter.all false
set_option maxRecDepth 100000
set_option maxHeartbeats 4000000
/-! the laws' draws: cup, roll, some, same, sky -/
namespace Ob
open PySem PySem.Spec PyProof.Rows L2
theorem lev {n k : Nat} (h : k + 1 ≤ n) : ∃ m, n = m + 1 ∧ k ≤ m := ⟨n - 1, by omega, by omega⟩
def fCup (A B C P Q : Int) : Fd := { name := "_law_cup", ps := ["script"], N := ["script", "cell"], nw := true, body :=
    (.cons (.asg (.nm 1) (.blt .abs (.cons (.ix (.bin .Add (.blt .list (.cons (.var 0) .nil)) (.lst (.cons (.int 0) .nil))) (.int 0)) .nil)))
    (.cons (.retL (.lst (.cons (.ite (.cmp .GtE (.var 1) (.bin .Pow (.int 10) (.int 18))) (.bin .FloorDiv (.var 1) (.int A)) (.int 0)) (.cons (.bin .Add (.bin .Mod (.blt .int (.cons (.bin .Add (.bin .Mult (.var 1) (.int B)) (.int C)) .nil)) (.int P)) (.int Q)) .nil))))
    .nil)) }
def fRoll (B C P Q R S : Int) : Fd := { name := "_law_roll", ps := ["cup", "many"], N := ["cup", "many", "deep", "found"], nw := false, body :=
    (.cons (.ifs (.cmp .Gt (.ix (.var 0) (.int 0)) (.int 0))
    (.cons (.asg (.nm 3) (.bin .Mod (.blt .int (.cons (.ix (.var 0) (.int 0)) .nil)) (.var 1)))
    (.cons (.put 0 (.int 0) (.bin .FloorDiv (.ix (.var 0) (.int 0)) (.var 1)))
    (.cons (.ret (.var 3))
    .nil)))
    .nil)
    (.cons (.put 0 (.int 1) (.bin .Mod (.blt .int (.cons (.bin .Add (.bin .Mult (.ix (.var 0) (.int 1)) (.int B)) (.int C)) .nil)) (.int P)))
    (.cons (.asg (.nm 2) (.bin .Mod (.blt .int (.cons (.bin .Mult (.ix (.var 0) (.int 1)) (.bin .Add (.ix (.var 0) (.int 1)) (.int Q))) .nil)) (.int R)))
    (.cons (.ret (.bin .Mod (.blt .int (.cons (.bin .FloorDiv (.var 2) (.int S)) .nil)) (.var 1)))
    .nil)))) }
def fSome (roll : Nat) : Fd := { name := "_law_some", ps := ["cup", "things"], N := ["cup", "things"], nw := false, body :=
    (.cons (.ret (.ix (.var 1) (.call roll (.cons (.var 0) (.cons (.blt .len (.cons (.var 1) .nil)) .nil)))))
    .nil) }
def fSame (same : Nat) : Fd := { name := "_law_same", ps := ["told", "due"], N := ["told", "due", "at"], nw := false, body :=
    (.cons (.ifs (.isi (.var 1) .tuple)
    (.cons (.ifs (.disj (.not (.isi (.var 0) .tuple)) (.cmp .NotEq (.blt .len (.cons (.var 0) .nil)) (.blt .len (.cons (.var 1) .nil))))
    (.cons (.ret (.bl false))
    .nil)
    .nil)
    (.cons (.ret (.blt .all (.cons (.lc (.call same (.cons (.ix (.var 0) (.var 2)) (.cons (.ix (.var 1) (.var 2)) .nil))) (.nm 2) (.rng (.cons (.blt .len (.cons (.var 1) .nil)) .nil)) .nop [2]) .nil)))
    .nil))
    .nil)
    (.cons (.ifs (.cmp .Is (.var 1) .non)
    (.cons (.ret (.cmp .Is (.var 0) .non))
    .nil)
    .nil)
    (.cons (.ifs (.isi (.var 1) .bool)
    (.cons (.ret (.ite (.var 1) (.cmp .Is (.var 0) (.bl true)) (.cmp .Is (.var 0) (.bl false))))
    .nil)
    .nil)
    (.cons (.ifs (.isi (.var 1) .int)
    (.cons (.ret (.conj (.isi (.var 0) .int) (.conj (.not (.isi (.var 0) .bool)) (.cmp .Eq (.blt .int (.cons (.var 0) .nil)) (.var 1)))))
    .nil)
    .nil)
    (.cons (.ret (.conj (.isi (.var 0) .str) (.cmp .Eq (.blt .str (.cons (.var 0) .nil)) (.var 1))))
    .nil))))) }
def fSky (roll some : Nat) : Fd := { name := "_law_sky", ps := ["cup", "stars"], N := ["cup", "stars", "first", "wide", "found", "turn", "place"], nw := false, body :=
    (.cons (.par [(2, .v), (3, .v), (4, .k)] (.cons (.call roll (.cons (.var 0) (.cons (.int 360) .nil))) (.cons (.call some (.cons (.var 0) (.cons (.lst (.cons (.int 10) (.cons (.int 90) (.cons (.int 360) .nil)))) .nil))) (.cons (.dct .nil .nil) .nil))))
    (.cons (.fors (.nm 5) (.rng (.cons (.bin .Add (.int 1) (.call roll (.cons (.var 0) (.cons (.var 1) .nil)))) .nil))
    (.cons (.put 4 (.bin .Mod (.blt .int (.cons (.bin .Add (.var 2) (.call roll (.cons (.var 0) (.cons (.var 3) .nil)))) .nil)) (.int 360)) (.bin .Add (.int 1) (.call roll (.cons (.var 0) (.cons (.call some (.cons (.var 0) (.cons (.lst (.cons (.int 2) (.cons (.int 9) .nil))) .nil))) .nil)))))
    .nil))
    (.cons (.ret (.blt .tuple (.cons (.lc (.tup (.cons (.var 6) (.cons (.ix (.var 4) (.var 6)) .nil))) (.nm 6) (.blt .sorted (.cons (.var 4) .nil)) .nop [6]) .nil)))
    .nil))) }
/-- a def that draws a number below m from the cup -/
structure Rolls (T : List Fd) (wf i : Nat) (rv : Int × Int → Int → Int) (rc : Int × Int → Int → Int × Int) : Prop where
  ev : ∀ n, 1 ≤ n → ∀ c m R, 0 < m → m < 18446744073709551616 → evFn T wf n i [.own 0, .d (.int m)] (cupM c :: R) = Rs.ok (.d (.int (rv c m))) (cupM (rc c m) :: R)
  lt : ∀ c m, 0 < m → 0 ≤ rv c m ∧ rv c m < m
def rvG (B C P Q R S : Int) (c : Int × Int) (m : Int) : Int := if 0 < c.1 then c.1 % m else ((((c.2 * B + C) % P) * ((c.2 * B + C) % P + Q)) % R / S) % m
def rcG (B C P : Int) (c : Int × Int) (m : Int) : Int × Int := if 0 < c.1 then (c.1 / m, c.2) else (c.1, (c.2 * B + C) % P)
theorem roll_ok {T : List Fd} {wf i : Nat} {B C P Q R S : Int} (h : T[i]? = some (fRoll B C P Q R S)) (hB : 0 < B ∧ B < 18446744073709551616) (hP : 0 < P ∧ P < 4611686018427387904) (hR : 0 < R) (hS : 0 < S ∧ S < 18446744073709551616) :
    Rolls T wf i (rvG B C P Q R S) (rcG B C P) := by
  refine ⟨fun n hn c m R0 h1 h2 => ?_, fun c m hm => ?_⟩
  · obtain ⟨n, rfl, hn'⟩ := lev hn
    rw [evF _ h rfl]
    have hb : 0 ≤ (c.2 * B + C) % P ∧ (c.2 * B + C) % P < P := ⟨Int.emod_nonneg _ (by omega), Int.emod_lt_of_pos _ hP.1⟩
    have z1 : ∀ M, oprD .Mult (.d (.int c.2)) (.d (.int B)) M = Rs.ok (.d (.int (c.2 * B))) M := fun M => o_mul M (.inr (by omega))
    have z2 : ∀ M, oprD .Mult (.d (.int ((c.2 * B + C) % P))) (.d (.int ((c.2 * B + C) % P + Q))) M = Rs.ok (.d (.int ((c.2 * B + C) % P * ((c.2 * B + C) % P + Q)))) M := fun M => o_mul M (.inl (by omega))
    simp only [fRoll]
    by_cases hc : 0 < c.1
    · simp [hc, rvG, rcG, o_mod, o_fdiv, h1, h2, s_put (x := .own 0)]
    · simp [hc, rvG, rcG, o_mod, o_fdiv, h1, h2, s_put (x := .own 0), z1, z2, hP.1, hR, hS.1, hS.2]
  · unfold rvG
    split <;> exact ⟨Int.emod_nonneg _ (by omega), Int.emod_lt_of_pos _ hm⟩
section
variable {T : List Fd} {wf roll : Nat} {rv : Int × Int → Int → Int} {rc : Int × Int → Int → Int × Int}
theorem cup_ok {i : Nat} {A B C P Q : Int} (h : T[i]? = some (fCup A B C P Q)) (hA : 0 < A ∧ A < 18446744073709551616) (hB : 0 < B ∧ B < 18446744073709551616) (hP : 0 < P) {n : Nat} (hn : 1 ≤ n) (ns : List Int) (hl : ns.length ≤ 63) (M : Ms) :
    ∃ c : Int × Int, evFn T wf n i [.scr (ns.map .int)] M = Rs.ok (.d (.list [.int c.1, .int c.2])) M := by
  obtain ⟨n, rfl, hn'⟩ := lev hn
  rw [evF _ h rfl]
  obtain ⟨x, r, e⟩ : ∃ x r, ns.map PyData.int ++ [.int 0] = .int x :: r := by
    cases ns with
    | nil => exact ⟨0, [], rfl⟩
    | cons a b => exact ⟨a, _, rfl⟩
  have z0 : ∀ M, oprD .Add (.d (.list (ns.map .int))) (.d (.list [.int 0])) M = Rs.ok (.d (.list (.int x :: r))) M := fun M => by
    rw [o_catL M (by simp; omega), e]
  have z3 : ∀ M, oprD .Pow (.d (.int 10)) (.d (.int 18)) M = Rs.ok (.d (.int 1000000000000000000)) M := fun M => o_pow (i := 10) (k := 18) M (by decide) (by decide)
  generalize hy : (if x < 0 then -x else x) = y
  have z1 : ∀ M, oprD .Mult (.d (.int y)) (.d (.int B)) M = Rs.ok (.d (.int (y * B))) M := fun M => o_mul M (.inr (by omega))
  refine ⟨(if 1000000000000000000 ≤ y then y / A else 0, (y * B + C) % P + Q), ?_⟩
  have e1 : ∀ (p q : List PyData), (M ++ [MO.lst p])[M.length]? = some (.lst p) := fun p q => by simp
  simp only [fCup]
  by_cases hc : 1000000000000000000 ≤ y
  · simp [seqMk, z0, z3, z1, hy, o_fdiv, o_mod, hA.1, hA.2, hP, line, hc]
  · simp [seqMk, z0, z3, z1, hy, o_fdiv, o_mod, hA.1, hA.2, hP, line, hc]
theorem some_ok (K : Rolls T wf roll rv rc) {i : Nat} (h : T[i]? = some (fSome roll)) {n : Nat} (hn : 2 ≤ n) (c : Int × Int) (xs : List PyData) (hx : 0 < xs.length) (hx2 : xs.length < 18446744073709551616) (R : Ms) :
    ∃ x ∈ xs, evFn T wf n i [.own 0, .d (.list xs)] (cupM c :: R) = Rs.ok (.d x) (cupM (rc c xs.length) :: R) := by
  obtain ⟨n, rfl, hn'⟩ := lev hn
  rw [evF _ h rfl]
  obtain ⟨h1, h2⟩ := K.lt c (xs.length : Int) (by omega)
  obtain ⟨k, hk⟩ : ∃ k : Nat, rv c (xs.length : Int) = (k : Int) := ⟨(rv c (xs.length : Int)).toNat, by omega⟩
  have hk2 : k < xs.length := by omega
  refine ⟨xs[k], List.getElem_mem hk2, ?_⟩
  have e := K.ev n hn' c (xs.length : Int) R (by omega) (by omega)
  rw [hk] at e
  simp [fSome, e, ix_l (k := k) _ (List.getElem?_eq_getElem hk2)]
/-- drawn from numbers -/
theorem some_int (K : Rolls T wf roll rv rc) {i : Nat} (h : T[i]? = some (fSome roll)) {n : Nat} (hn : 2 ≤ n) (c : Int × Int) (ks : List Int) (hx : 0 < ks.length) (hx2 : ks.length < 18446744073709551616) (R : Ms) :
    ∃ k ∈ ks, evFn T wf n i [.own 0, .d (.list (ks.map .int))] (cupM c :: R) = Rs.ok (.d (.int k)) (cupM (rc c ks.length) :: R) := by
  obtain ⟨x, hx, e⟩ := some_ok K h hn c (ks.map .int) (by simpa using hx) (by simpa using hx2) R
  obtain ⟨k, hk, rfl⟩ := List.mem_map.mp hx
  exact ⟨k, hk, by simpa using e⟩
end
end Ob

set_option Elab.async false
set_option linter.all false
set_option maxRecDepth 100000
set_option maxHeartbeats 4000000
namespace Ob
open PySem PySem.Spec PyProof.Rows L2
def someD (y : D) (M : Ms) : Rs (Option PyData) := match y with
  | .d v => Rs.ok (some v) M
  | _ => none
@[simp] theorem someD_d (v : PyData) (M : Ms) : someD (.d v) M = Rs.ok (some v) M := Eq.trans rfl rfl
section
variable {call : Nat → List D → Ms → Rs D} {ρ : Rho} {M : Ms} {wf : Nat}
theorem lcb {elt : E} {tg : Tg} {cond : E} {vs : List Nat} {x : D} {ρ' : Rho} (h : bindTg tg x (wipeR ρ vs) = some ρ') : lcBody call elt tg cond vs ρ x M = ((ev call cond ρ' M).bind fun c M3 => br c ((ev call elt ρ' M3).bind someD) (Rs.ok none M3)).quiet := by
  unfold lcBody
  rw [h]
  rfl
@[simp] theorem lcM_its (elt : E) (tg : Tg) (cond : E) (vs : List Nat) (xs : List D) : lcM call elt tg cond vs ρ (.its xs) M = (lcLoop (lcBody call elt tg cond vs ρ) xs M).bind fun ys M6 => Rs.ok (.d (.list ys)) M6 := Eq.trans rfl rfl
@[simp] theorem lcM_l (elt : E) (tg : Tg) (cond : E) (vs : List Nat) (xs : List PyData) : lcM call elt tg cond vs ρ (.d (.list xs)) M = (lcLoop (lcBody call elt tg cond vs ρ) (xs.map .d) M).bind fun ys M6 => Rs.ok (.d (.list ys)) M6 := Eq.trans rfl rfl
@[simp] theorem lcM_t (elt : E) (tg : Tg) (cond : E) (vs : List Nat) (xs : List PyData) : lcM call elt tg cond vs ρ (.d (.tuple xs)) M = (lcLoop (lcBody call elt tg cond vs ρ) (xs.map .d) M).bind fun ys M6 => Rs.ok (.d (.list ys)) M6 := Eq.trans rfl rfl
@[simp] theorem forM_its (tg : Tg) (b : Ss) (xs : List D) : forM' call wf tg b ρ (.its xs) M = forLoop (fbody call wf tg b) xs ρ M := Eq.trans rfl rfl
@[simp] theorem forM_l (tg : Tg) (b : Ss) (xs : List PyData) : forM' call wf tg b ρ (.d (.list xs)) M = forLoop (fbody call wf tg b) (xs.map .d) ρ M := Eq.trans rfl rfl
@[simp] theorem forM_t (tg : Tg) (b : Ss) (xs : List PyData) : forM' call wf tg b ρ (.d (.tuple xs)) M = forLoop (fbody call wf tg b) (xs.map .d) ρ M := Eq.trans rfl rfl
/-- a comprehension that calls nothing that writes: by the items -/
theorem lc_map {α : Type} {elt : E} {tg : Tg} {cond : E} {vs : List Nat} {f : α → D} (g : α → Option PyData) {l : List α} (h : ∀ a ∈ l, lcBody call elt tg cond vs ρ (f a) M = Rs.ok (g a) M) : lcLoop (lcBody call elt tg cond vs ρ) (l.map f) M = Rs.ok (l.filterMap g) M := by
  induction l with
  | nil => rw [List.map_nil, lcLoop]; rfl
  | cons a l ih =>
    rw [List.map_cons, lcLoop, h a (by simp), Rs.bind_ok, ih (fun b hb => h b (by simp [hb])), Rs.bind_ok, List.filterMap_cons]
    cases g a <;> rfl
theorem lc_all {α : Type} {elt : E} {tg : Tg} {cond : E} {vs : List Nat} {f : α → D} (g : α → PyData) {l : List α} (h : ∀ a ∈ l, lcBody call elt tg cond vs ρ (f a) M = Rs.ok (some (g a)) M) : lcLoop (lcBody call elt tg cond vs ρ) (l.map f) M = Rs.ok (l.map g) M := by
  rw [lc_map (fun a => some (g a)) h]
  simp
end
theorem rng1 {n : Nat} (M : Ms) (h : n ≤ 16777216) : rngM [.d (.int (n : Nat))] M = Rs.ok (.its ((List.range n).map fun i => .d (.int ((i : Nat) : Int)))) M := by
  have h1 : (n : Int) < 4611686018427387904 := by omega
  have h3 : -(n : Int) ≤ 4611686018427387904 := by omega
  have h2 : (-(n : Int)).toNat = 0 := by omega
  simp [rngM, rangeOf, rangeD, h, line, h1, h2]
theorem rng2 {a b : Int} (M : Ms) (ha : 0 ≤ a) (ha2 : a ≤ 16777216) (hb : 0 ≤ b) (hb2 : b ≤ 16777216) : rngM [.d (.int a), .d (.int b)] M = Rs.ok (.its ((List.range (b - a).toNat).map fun i => .d (.int (a + (i : Nat))))) M := by
  have h1 : (b - a).toNat ≤ 16777216 := by omega
  have h2 : (a - b).toNat ≤ 16777216 := by omega
  have h3 : -(2 ^ 62) ≤ a ∧ a < 2 ^ 62 ∧ -(2 ^ 62) ≤ b ∧ b < 2 ^ 62 ∧ line (b - a).toNat = true ∧ line (a - b).toNat = true := ⟨by omega, by omega, by omega, by omega, by simp [line, h1], by simp [line, h2]⟩
  simp only [rngM, rangeOf, rangeD]
  rw [if_pos h3]
  rfl
/-! same -/
mutual
def pl : PyData → Bool
  | .none => true
  | .bool _ => true
  | .int _ => true
  | .tuple xs => line xs.length && plAll xs
  | _ => false
def plAll : List PyData → Bool
  | [] => true
  | x :: xs => pl x && plAll xs
end
theorem line_nat {n : Nat} (h : line n = true) : n ≤ 16777216 := of_decide_eq_true h
theorem plAll_mem : ∀ {xs : List PyData}, plAll xs = true → ∀ x ∈ xs, pl x = true
  | [], _, x, h => by simp at h
  | y :: xs, h, x, hx => by
    rw [plAll, Bool.and_eq_true] at h
    rcases List.mem_cons.mp hx with rfl | hx
    · exact h.1
    · exact plAll_mem h.2 x hx
theorem depth_mem : ∀ {xs : List PyData}, ∀ x ∈ xs, x.depth ≤ PyData.depthAll xs
  | [], x, h => by simp at h
  | y :: xs, x, hx => by
    rw [PyData.depthAll]
    rcases List.mem_cons.mp hx with rfl | hx
    · exact Nat.le_max_left _ _
    · exact Nat.le_trans (depth_mem x hx) (Nat.le_max_right _ _)
theorem same_non {T : List Fd} {wf i : Nat} (h : T[i]? = some (fSame i)) (n : Nat) (M : Ms) : evFn T wf (n + 1) i [.d .none, .d .none] M = Rs.ok (.d (.bool true)) M := by
  rw [evF _ h rfl]
  simp [fSame, isTy, c_is]
theorem same_bool {T : List Fd} {wf i : Nat} (h : T[i]? = some (fSame i)) (n : Nat) (M : Ms) (b : Bool) : evFn T wf (n + 1) i [.d (.bool b), .d (.bool b)] M = Rs.ok (.d (.bool true)) M := by
  rw [evF _ h rfl]
  cases b <;> simp [fSame, isTy, c_is]
theorem same_int {T : List Fd} {wf i : Nat} (h : T[i]? = some (fSame i)) (n : Nat) (M : Ms) (b : Int) : evFn T wf (n + 1) i [.d (.int b), .d (.int b)] M = Rs.ok (.d (.bool true)) M := by
  rw [evF _ h rfl]
  simp [fSame, isTy, c_is]
theorem same_turn {T : List Fd} {wf i : Nat} (n : Nat) (M : Ms) (xs : List PyData) (ih : ∀ x ∈ xs, evFn T wf n i [.d x, .d x] M = Rs.ok (.d (.bool true)) M) (k : Nat) (hk : k ∈ List.range xs.length) :
    lcBody (evFn T wf n) (.call i (.cons (.ix (.var 0) (.var 2)) (.cons (.ix (.var 1) (.var 2)) .nil))) (.nm 2) .nop [2] [some (.d (.tuple xs)), some (.d (.tuple xs)), none] (.d (.int ((k : Nat) : Int))) M = Rs.ok (some (.bool true)) M := by
  have hk : k < xs.length := List.mem_range.mp hk
  have e := ih xs[k] (List.getElem_mem hk)
  rw [lcb (ρ' := [some (.d (.tuple xs)), some (.d (.tuple xs)), some (.d (.int ((k : Nat) : Int)))]) rfl]
  simp [ix_t (k := k) _ (List.getElem?_eq_getElem hk), e]
theorem same_rest {call : Nat → List D → Ms → Rs D} (M : Ms) (i : Nat) (xs : List PyData) (hl : xs.length ≤ 16777216) (hb : ∀ k ∈ List.range xs.length, lcBody call (.call i (.cons (.ix (.var 0) (.var 2)) (.cons (.ix (.var 1) (.var 2)) .nil))) (.nm 2) .nop [2] [some (.d (.tuple xs)), some (.d (.tuple xs)), none] (.d (.int ((k : Nat) : Int))) M = Rs.ok (some (.bool true)) M) :
    ev call (.blt .all (.cons (.lc (.call i (.cons (.ix (.var 0) (.var 2)) (.cons (.ix (.var 1) (.var 2)) .nil))) (.nm 2) (.rng (.cons (.blt .len (.cons (.var 1) .nil)) .nil)) .nop [2]) .nil)) [some (.d (.tuple xs)), some (.d (.tuple xs)), none] M = Rs.ok (.d (.bool true)) M := by
  have e0 := rng1 M hl
  have e1 := lc_all (fun _ => PyData.bool true) hb
  have e2 := b_all (fun _ : Nat => true) (List.range xs.length) M
  have e3 : ((List.range xs.length).all fun _ => true) = true := by rw [List.all_eq_true]; intro _ _; rfl
  rw [e3] at e2
  simp [e0, e1, e2]
theorem same_tup {T : List Fd} {wf i : Nat} (h : T[i]? = some (fSame i)) (n : Nat) (M : Ms) (xs : List PyData) (hl : xs.length ≤ 16777216) (ih : ∀ x ∈ xs, evFn T wf n i [.d x, .d x] M = Rs.ok (.d (.bool true)) M) : evFn T wf (n + 1) i [.d (.tuple xs), .d (.tuple xs)] M = Rs.ok (.d (.bool true)) M := by
  rw [evF _ h rfl]
  have e := same_rest (call := evFn T wf n) M i xs hl (same_turn n M xs ih)
  simp only [fSame, ss_cons, s_ifs, e_isi, e_var, s_ret, e_disj, e_not, e_cmp, e_blt, es_cons, es_nil] at e ⊢
  simp [isTy] at e ⊢
  simp [e]
theorem same_ok {T : List Fd} {wf i : Nat} (h : T[i]? = some (fSame i)) : ∀ (d : Nat) (x : PyData), pl x = true → x.depth ≤ d → ∀ n, d + 1 ≤ n → ∀ M, evFn T wf n i [.d x, .d x] M = Rs.ok (.d (.bool true)) M := by
  intro d
  induction d with
  | zero =>
    intro x hx hd n hn M
    obtain ⟨n, rfl, hn'⟩ := lev hn
    cases x with
    | none => exact same_non h n M
    | bool b => exact same_bool h n M b
    | int i => exact same_int h n M i
    | tuple xs => simp [PyData.depth] at hd
    | _ => simp [pl] at hx
  | succ d ih =>
    intro x hx hd n hn M
    obtain ⟨n, rfl, hn'⟩ := lev hn
    cases x with
    | none => exact same_non h n M
    | bool b => exact same_bool h n M b
    | int i => exact same_int h n M i
    | tuple xs =>
      rw [pl, Bool.and_eq_true] at hx
      have hdp : PyData.depthAll xs ≤ d := by simpa [PyData.depth] using hd
      exact same_tup h n M xs (line_nat hx.1) fun x hm => ih x (plAll_mem hx.2 _ hm) (Nat.le_trans (depth_mem _ hm) hdp) n hn' M
    | _ => simp [pl] at hx
/-! sky -/
def skyD (sk : List (Int × Int)) : PyData := .tuple (sk.map fun p => .tuple [.int p.1, .int p.2])
/-- a sky: places rise in the ring, brightness 1 to 9, at most n stars -/
structure Sky (n : Nat) (sk : List (Int × Int)) : Prop where
  pos : 0 < sk.length
  len : sk.length ≤ n
  up : (sk.map (·.1)).Pairwise (· < ·)
  ok : ∀ p ∈ sk, 0 ≤ p.1 ∧ p.1 < 360 ∧ 1 ≤ p.2 ∧ p.2 ≤ 9
/-- what has been found so far -/
structure Fnd (kvs : List (Key × PyData)) : Prop where
  nd : (kvs.map (·.1)).Nodup
  ok : ∀ q ∈ kvs, ∃ p b : Int, q = (.inl p, .int b) ∧ 0 ≤ p ∧ p < 360 ∧ 1 ≤ b ∧ b ≤ 9
theorem fnd_store {kvs : List (Key × PyData)} (h : Fnd kvs) {p b : Int} (hp : 0 ≤ p ∧ p < 360) (hb : 1 ≤ b ∧ b ≤ 9) : Fnd (store kvs (.inl p) (.int b)) ∧ (store kvs (.inl p) (.int b)).length ≤ kvs.length + 1 ∧ 0 < (store kvs (.inl p) (.int b)).length := by
  unfold store
  split
  · rename_i hany
    have hk : (kvs.map fun kv => if kv.1 = Sum.inl p then (kv.1, PyData.int b) else kv).map (·.1) = kvs.map (·.1) := by
      rw [List.map_map]
      apply List.map_congr_left
      intro kv _
      by_cases c : kv.1 = Sum.inl p <;> simp [c]
    refine ⟨⟨by rw [hk]; exact h.nd, fun q hq => ?_⟩, by simp, ?_⟩
    · obtain ⟨kv, hkv, rfl⟩ := List.mem_map.mp hq
      by_cases c : kv.1 = Sum.inl p
      · rw [if_pos c]
        exact ⟨p, b, by rw [c], hp.1, hp.2, hb.1, hb.2⟩
      · rw [if_neg c]
        exact h.ok kv hkv
    · obtain ⟨kv, hkv, _⟩ := List.any_eq_true.mp hany
      rw [List.length_map]
      exact List.length_pos_of_mem hkv
  · rename_i hany
    refine ⟨⟨?_, fun q hq => ?_⟩, by simp, by simp⟩
    · rw [List.map_append, List.nodup_append]
      refine ⟨h.nd, by simp, fun a ha b hb => ?_⟩
      have hb : b = Sum.inl p := by simpa using hb
      subst hb
      intro e
      subst e
      obtain ⟨kv, hkv, e⟩ := List.mem_map.mp ha
      exact hany (List.any_eq_true.mpr ⟨kv, hkv, by simpa using e⟩)
    · rcases List.mem_append.mp hq with hq | hq
      · exact h.ok q hq
      · have : q = (Sum.inl p, PyData.int b) := by simpa using hq
        exact ⟨p, b, this, hp.1, hp.2, hb.1, hb.2⟩
theorem fnd_ints : ∀ {kvs : List (Key × PyData)}, Fnd kvs → ∃ ks : List Int, intsOf (kvs.map fun kv => keyD kv.1) = some ks ∧ kvs.map (·.1) = ks.map Sum.inl
  | [], _ => ⟨[], rfl, rfl⟩
  | q :: kvs, h => by
    obtain ⟨p, b, rfl, _⟩ := h.ok q (by simp)
    obtain ⟨ks, e1, e2⟩ := fnd_ints (kvs := kvs) ⟨(List.nodup_cons.mp h.nd).2, fun q hq => h.ok q (by simp [hq])⟩
    exact ⟨p :: ks, by rw [List.map_cons]; show (intsOf (kvs.map fun kv => keyD kv.1)).map (p :: ·) = _; rw [e1]; rfl, by simp [e2]⟩
theorem look_mem {kvs : List (Key × PyData)} (h : Fnd kvs) {p : Int} (hp : Sum.inl p ∈ kvs.map (·.1)) : ∃ b : Int, look kvs (.inl p) = some (.int b) ∧ 1 ≤ b ∧ b ≤ 9 ∧ 0 ≤ p ∧ p < 360 := by
  obtain ⟨kv, hkv, e⟩ := List.mem_map.mp hp
  have hf : ∃ x, kvs.find? (fun kv => decide (kv.1 = Sum.inl p)) = some x := by
    rw [← Option.isSome_iff_exists, List.find?_isSome]
    exact ⟨kv, hkv, by simpa using e⟩
  obtain ⟨x, hx⟩ := hf
  have h1 := List.find?_some hx
  have h2 := List.mem_of_find?_eq_some hx
  obtain ⟨p', b, rfl, q1, q2, q3, q4⟩ := h.ok x h2
  have e : p' = p := by simpa using h1
  subst e
  exact ⟨b, by unfold look; rw [hx]; rfl, q3, q4, q1, q2⟩
end Ob

set_option Elab.async false
set_option linter.all false
set_option maxRecDepth 100000
set_option maxHeartbeats 4000000
namespace Ob
open PySem PySem.Spec PyProof.Rows L2
def bOf (kvs : List (Key × PyData)) (p : Int) : Int := match look kvs (.inl p) with
  | some (.int b) => b
  | _ => 0
theorem bOf_eq {kvs : List (Key × PyData)} {p b : Int} (e : look kvs (.inl p) = some (.int b)) : bOf kvs p = b := by
  unfold bOf
  rw [e]
section
variable {T : List Fd} {wf roll some' : Nat} {rv : Int × Int → Int → Int} {rc : Int × Int → Int → Int × Int}
/-- one more star -/
theorem sky_turn (K : Rolls T wf roll rv rc) (hs : T[some']? = some (fSome roll)) {n : Nat} (hn : 2 ≤ n) (c : Int × Int) (stars : PyData) (first wide : Int) (hw : 0 < wide ∧ wide < 1000) (o o2 : Option D) (x : D) (kvs : List (Key × PyData)) (hk : Fnd kvs) (hl : kvs.length < 60) :
    ∃ p b c', 0 ≤ p ∧ p < 360 ∧ 1 ≤ b ∧ b ≤ 9 ∧
    fbody (evFn T wf n) wf (.nm 5) (.cons (.put 4 (.bin .Mod (.blt .int (.cons (.bin .Add (.var 2) (.call roll (.cons (.var 0) (.cons (.var 3) .nil)))) .nil)) (.int 360)) (.bin .Add (.int 1) (.call roll (.cons (.var 0) (.cons (.call some' (.cons (.var 0) (.cons (.lst (.cons (.int 2) (.cons (.int 9) .nil))) .nil))) .nil))))) .nil)
      x [some (.own 0), some (.d stars), some (.d (.int first)), some (.d (.int wide)), some (.own 1), o, o2] [cupM c, .dK kvs] =
      Rs.ok (.nx, [some (.own 0), some (.d stars), some (.d (.int first)), some (.d (.int wide)), some (.own 1), some x, o2]) [cupM c', .dK (store kvs (.inl p) (.int b))] := by
  obtain ⟨m, hm, e1⟩ := some_int K hs hn c [2, 9] (by decide) (by decide) [.dK kvs]
  have hm2 : m = 2 ∨ m = 9 := by simpa using hm
  generalize hc1 : rc c (([2, 9] : List Int).length : Nat) = c1 at e1
  have e2 := K.ev n (by omega) c1 m [.dK kvs] (by omega) (by omega)
  obtain ⟨b1, b2⟩ := K.lt c1 m (by omega)
  have e3 := K.ev n (by omega) (rc c1 m) wide [.dK kvs] hw.1 (by omega)
  have g1 := Int.emod_nonneg (first + rv (rc c1 m) wide) (show (360 : Int) ≠ 0 by decide)
  have g2 := Int.emod_lt_of_pos (first + rv (rc c1 m) wide) (show (0 : Int) < 360 by decide)
  refine ⟨(first + rv (rc c1 m) wide) % 360, 1 + rv c1 m, rc (rc c1 m) wide, g1, g2, by omega, by omega, ?_⟩
  have hln : line (kvs.length + 1) = true := decide_eq_true (by omega)
  have hput : ∀ (ρ : Rho) (c : Int × Int) (p b : Int), putR (.own 1) (.d (.int p)) (.d (.int b)) ρ [cupM c, .dK kvs] = Rs.ok (.nx, ρ) [cupM c, .dK (store kvs (.inl p) (.int b))] := fun ρ c p b => by simp [putR, putM, keyOf, hln]
  simp only [List.map_cons, List.map_nil] at e1
  unfold fbody
  simp [bindTg, s_put (x := .own 1), seqMk, line, e1, e2, e3, o_mod, hput]
theorem sky_ok (K : Rolls T wf roll rv rc) (hs : T[some']? = some (fSome roll)) {i : Nat} (h : T[i]? = some (fSky roll some')) {n : Nat} (hn : 3 ≤ n) (c : Int × Int) (stars : Nat) (h0 : 0 < stars) (h1 : stars < 60) :
    ∃ sk c', evFn T wf n i [.own 0, .d (.int (stars : Nat))] [cupM c] = Rs.ok (.d (skyD sk)) [cupM c'] ∧ Sky stars sk := by
  obtain ⟨n, rfl, hn'⟩ := lev hn
  rw [evF _ h rfl]
  have e1 := K.ev n (by omega) c 360 [] (by decide) (by decide)
  obtain ⟨w, hw, e2⟩ := some_int K hs hn' (rc c 360) [10, 90, 360] (by decide) (by decide) []
  have hw2 : w = 10 ∨ w = 90 ∨ w = 360 := by simpa using hw
  simp only [List.map_cons, List.map_nil] at e2
  generalize hc2 : rc (rc c 360) (([10, 90, 360] : List Int).length : Nat) = c2 at e2
  have e3 := K.ev n (by omega) c2 (stars : Int) [.dK []] (by omega) (by omega)
  obtain ⟨b1, b2⟩ := K.lt c2 (stars : Int) (by omega)
  obtain ⟨k, hk⟩ : ∃ k : Nat, 1 + rv c2 (stars : Int) = (k : Int) := ⟨(1 + rv c2 (stars : Int)).toNat, by omega⟩
  have hk1 : 1 ≤ k ∧ k ≤ stars := by omega
  have e4 := rng1 (n := k) [cupM (rc c2 (stars : Int)), .dK []] (by omega)
  generalize hf0 : rv c 360 = f0 at *
  -- the loop
  obtain ⟨ρ', M', e5, J⟩ := forLoop_inv (body := fbody (evFn T wf n) wf (.nm 5) (.cons (.put 4 (.bin .Mod (.blt .int (.cons (.bin .Add (.var 2) (.call roll (.cons (.var 0) (.cons (.var 3) .nil)))) .nil)) (.int 360)) (.bin .Add (.int 1) (.call roll (.cons (.var 0) (.cons (.call some' (.cons (.var 0) (.cons (.lst (.cons (.int 2) (.cons (.int 9) .nil))) .nil))) .nil))))) .nil))
    (xs := (List.range k).map fun i => D.d (.int ((i : Nat) : Int)))
    (fun j ρ M => ∃ (c : Int × Int) (kvs : List (Key × PyData)) (o : Option D), ρ = [some (.own 0), some (.d (.int (stars : Nat))), some (.d (.int f0)), some (.d (.int w)), some (.own 1), o, none] ∧ M = [cupM c, .dK kvs] ∧ Fnd kvs ∧ kvs.length ≤ j ∧ (1 ≤ j → 0 < kvs.length) ∧ j ≤ k)
    (ρ := [some (.own 0), some (.d (.int (stars : Nat))), some (.d (.int f0)), some (.d (.int w)), some (.own 1), none, none]) (M := [cupM (rc c2 (stars : Int)), .dK []])
    ⟨_, [], none, rfl, rfl, ⟨List.nodup_nil, fun q hq => by simp at hq⟩, Nat.le_refl _, fun z => by omega, by omega⟩
    (by
      rintro j x ρ M hj ⟨c, kvs, o, rfl, rfl, hf, hl, hp, hjk⟩
      have hjl : j < k := by
        have := (List.getElem?_eq_some_iff.mp hj).1
        simpa using this
      obtain ⟨p, b, c', p1, p2, q1, q2, e⟩ := sky_turn K hs hn' c (.int (stars : Nat)) f0 w (by omega) o none x kvs hf (by omega)
      obtain ⟨s1, s2, s3⟩ := fnd_store hf ⟨p1, p2⟩ ⟨q1, q2⟩
      exact ⟨_, _, e, c', _, some x, rfl, rfl, s1, by omega, fun _ => s3, by omega⟩)
  obtain ⟨c', kvs, o, rfl, rfl, hf, hl, hp, _⟩ := J
  rw [List.length_map, List.length_range] at hl hp
  have hp := hp hk1.1
  obtain ⟨ks, i1, i2⟩ := fnd_ints hf
  have hkl : ks.length = kvs.length := by have := congrArg List.length i2; simpa using this.symm
  obtain ⟨ls, hls⟩ : ∃ ls, ls = ks.mergeSort fun a b => decide (a ≤ b) := ⟨_, rfl⟩
  have hperm : ls.Perm ks := by rw [hls]; exact List.mergeSort_perm _ _
  have hsort : callOp .sorted [.own 1] [cupM c', .dK kvs] = some (.list (ls.map .int)) := by
    have h64 : kvs.length < 64 := by omega
    simp [callOp, h64, i1, hls]
  have hmem : ∀ p ∈ ls, ∃ b : Int, look kvs (.inl p) = some (.int b) ∧ 1 ≤ b ∧ b ≤ 9 ∧ 0 ≤ p ∧ p < 360 := by
    intro p hp
    refine look_mem hf ?_
    rw [i2]
    exact List.mem_map.mpr ⟨p, hperm.mem_iff.mp hp, rfl⟩
  obtain ⟨bf, hbf⟩ : ∃ bf : Int → Int, ∀ p ∈ ls, look kvs (.inl p) = some (.int (bf p)) ∧ 1 ≤ bf p ∧ bf p ≤ 9 ∧ 0 ≤ p ∧ p < 360 := by
    refine ⟨bOf kvs, fun p hp => ?_⟩
    obtain ⟨b, e, q⟩ := hmem p hp
    rw [bOf_eq e]
    exact ⟨e, q⟩
  have e6 := lc_all (call := evFn T wf n) (ρ := [some (.own 0), some (.d (.int (stars : Nat))), some (.d (.int f0)), some (.d (.int w)), some (.own 1), o, none]) (M := [cupM c', .dK kvs]) (elt := .tup (.cons (.var 6) (.cons (.ix (.var 4) (.var 6)) .nil))) (tg := .nm 6) (cond := .nop) (vs := [6]) (f := fun p : Int => D.d (.int p)) (fun p => .tuple [.int p, .int (bf p)]) (l := ls) (by
    intro p hp
    rw [lcb (ρ' := [some (.own 0), some (.d (.int (stars : Nat))), some (.d (.int f0)), some (.d (.int w)), some (.own 1), o, some (.d (.int p))]) rfl]
    have hix : ixD (.own 1) (.d (.int p)) [cupM c', .dK kvs] = Rs.ok (.d (.int (bf p))) [cupM c', .dK kvs] := by
      simp [ixD, Ob.view, dlook, keyOf, (hbf p hp).1]
    simp [seqMk, line, hix])
  refine ⟨ls.map fun p => (p, bf p), c', ?_, ?_, ?_, ?_, ?_⟩
  · simp only [fSky]
    simp [seqMk, line, e1, e2, hf0, hc2, e3, hk, e4, e5, hsort]
    have e7 : ls.map (D.d ∘ PyData.int) = ls.map fun p : Int => D.d (.int p) := rfl
    rw [e7, e6]
    simp [skyD]
    rfl
  · rw [List.length_map, hperm.length_eq, hkl]; exact hp
  · rw [List.length_map, hperm.length_eq, hkl]; omega
  · rw [List.map_map]
    have e8 : ls.map ((·.1) ∘ fun p => (p, bf p)) = ls := List.map_id' ls
    rw [e8]
    have hle : ls.Pairwise (· ≤ ·) := by
      rw [hls]
      have := List.pairwise_mergeSort (le := fun (a b : Int) => decide (a ≤ b)) (fun a b c h1 h2 => by simp at *; omega) (fun a b => by simp; omega) ks
      exact this.imp fun h => by simpa using h
    have hnd : ls.Nodup := by
      rw [hperm.nodup_iff]
      have := hf.nd
      rw [i2] at this
      exact (List.pairwise_map.mp this).imp fun h e => h (by rw [e])
    exact (List.pairwise_and_iff.mpr ⟨hle, hnd⟩).imp fun h => by omega
  · intro p hp
    obtain ⟨q, hq, rfl⟩ := List.mem_map.mp hp
    obtain ⟨_, a1, a2, a3, a4⟩ := hbf q hq
    exact ⟨a3, a4, a1, a2⟩
end
end Ob

set_option Elab.async false
set_option linter.all false
set_option maxRecDepth 100000
set_option maxHeartbeats 4000000
/-! the skies' shared defs -/
namespace Ob
open PySem PySem.Spec PyProof.Rows L2
def g_is_whole : Fd := { name := "is_whole", ps := ["value", "low", "high"], N := ["value", "low", "high"], nw := false, body :=
    (.cons (.ret (.conj (.isi (.var 0) .int) (.conj (.not (.isi (.var 0) .bool)) (.cmp2 .LtE .LtE (.var 1) (.var 0) (.var 2)))))
    .nil) }
def g_is_tuple_of : Fd := { name := "is_tuple_of", ps := ["value", "low", "high"], N := ["value", "low", "high"], nw := false, body :=
    (.cons (.ret (.conj (.isi (.var 0) .tuple) (.cmp2 .LtE .LtE (.var 1) (.blt .len (.cons (.var 0) .nil)) (.var 2))))
    .nil) }
def g_is_rising : Fd := { name := "is_rising", ps := ["value"], N := ["value", "one", "other"], nw := false, body :=
    (.cons (.ret (.blt .all (.cons (.lc (.cmp .Lt (.var 1) (.var 2)) (.tp (.cons (.nm 1) (.cons (.nm 2) .nil))) (.zip (.cons (.var 0) (.cons (.slc (.var 0) (.int 1) .nop) .nil))) .nop [1, 2]) .nil)))
    .nil) }
def g_fits_some (i_is_tuple_of i_is_whole i_is_rising : Nat) : Fd := { name := "fits_some", ps := ["many", "value"], N := ["many", "value", "one"], nw := false, body :=
    (.cons (.ret (.conj (.call i_is_tuple_of (.cons (.var 1) (.cons (.int 0) (.cons (.var 0) .nil)))) (.conj (.blt .all (.cons (.lc (.call i_is_whole (.cons (.var 2) (.cons (.int 0) (.cons (.bin .Sub (.var 0) (.int 1)) .nil)))) (.nm 2) (.var 1) .nop [2]) .nil)) (.call i_is_rising (.cons (.var 1) .nil)))))
    .nil) }
def g_fits_star (i_is_tuple_of i_is_whole : Nat) : Fd := { name := "fits_star", ps := ["value"], N := ["value"], nw := false, body :=
    (.cons (.ret (.conj (.call i_is_tuple_of (.cons (.var 0) (.cons (.int 2) (.cons (.int 2) .nil)))) (.conj (.call i_is_whole (.cons (.ix (.var 0) (.int 0)) (.cons (.int 0) (.cons (.bin .Sub (.gi "RING" (360)) (.int 1)) .nil)))) (.call i_is_whole (.cons (.ix (.var 0) (.int 1)) (.cons (.int 1) (.cons (.gi "BRIGHT" (9)) .nil)))))))
    .nil) }
def g_fits_sky (i_is_tuple_of i_fits_star i_is_rising : Nat) : Fd := { name := "fits_sky", ps := ["value"], N := ["value", "place", "bright", "one"], nw := false, body :=
    (.cons (.ifs (.disj (.not (.call i_is_tuple_of (.cons (.var 0) (.cons (.int 1) (.cons (.gi "STARS" (24)) .nil))))) (.not (.blt .all (.cons (.lc (.call i_fits_star (.cons (.var 3) .nil)) (.nm 3) (.var 0) .nop [3]) .nil))))
    (.cons (.ret (.bl false))
    .nil)
    .nil)
    (.cons (.ret (.call i_is_rising (.cons (.blt .tuple (.cons (.lc (.var 1) (.tp (.cons (.nm 1) (.cons (.nm 2) .nil))) (.var 0) .nop [1, 2]) .nil)) .nil)))
    .nil)) }
def g_need_sky (i_fits_sky : Nat) : Fd := { name := "need_sky", ps := ["sky"], N := ["sky"], nw := false, body :=
    (.cons (.ifs (.not (.call i_fits_sky (.cons (.var 0) .nil)))
    (.cons .nev
    .nil)
    .nil)
    .nil) }
/-! rows that are lacking -/
theorem e_zip {call : Nat → List D → Ms → Rs D} {ρ : Rho} {M : Ms} (es : Es) : ev call (.zip es) ρ M = (evs call es ρ M).bind fun xs M1 => match xs with
    | [.d x, .d y] => if (isTup x == isTup y) = false then none else match seqD M1 (.d x), seqD M1 (.d y) with
      | some xs, some ys => if line (pairs xs ys).length = true then Rs.ok (.its (pairs xs ys)) M1 else none
      | _, _ => none
    | _ => none := by rw [ev] <;> rfl
def zipM (xs : List D) (M1 : Ms) : Rs D := match xs with
    | [.d x, .d y] => if (isTup x == isTup y) = false then none else match seqD M1 (.d x), seqD M1 (.d y) with
      | some xs, some ys => if line (pairs xs ys).length = true then Rs.ok (.its (pairs xs ys)) M1 else none
      | _, _ => none
    | _ => none
@[simp] theorem e_zipM {call : Nat → List D → Ms → Rs D} {ρ : Rho} {M : Ms} (es : Es) : ev call (.zip es) ρ M = (evs call es ρ M).bind zipM := by rw [ev]; rfl
theorem zip_t {xs ys : List PyData} (M : Ms) (h : (pairs xs ys).length ≤ 16777216) : zipM [.d (.tuple xs), .d (.tuple ys)] M = Rs.ok (.its (pairs xs ys)) M := by
  have : line (pairs xs ys).length = true := decide_eq_true h
  simp [zipM, isTup, seqD, this]
theorem zip_l {xs ys : List PyData} (M : Ms) (h : (pairs xs ys).length ≤ 16777216) : zipM [.d (.list xs), .d (.list ys)] M = Rs.ok (.its (pairs xs ys)) M := by
  have : line (pairs xs ys).length = true := decide_eq_true h
  simp [zipM, isTup, seqD, this]
theorem pairs_ints : ∀ ks ls : List Int, pairs (ks.map .int) (ls.map .int) = (ks.zip ls).map fun p => D.d (.tuple [.int p.1, .int p.2])
  | [], ls => by simp [pairs]
  | k :: ks, [] => by simp [pairs]
  | k :: ks, l :: ls => by simp [pairs, pairs_ints ks ls]
theorem cut_from (xs : List PyData) (k : Nat) : cutI xs (some ((k : Nat) : Int)) none = xs.drop k := by
  unfold cutI
  rw [HT.sIx_nat, HT.sIx_none]
  by_cases h : k ≤ xs.length
  · rw [Nat.min_eq_left h]
    apply List.take_of_length_le
    simp
  · rw [Nat.min_eq_right (by omega), List.drop_of_length_le (Nat.le_refl _), List.drop_of_length_le (by omega)]
    simp
def slcM (l h : Option Int) (x : D) (M : Ms) : Rs D := slD x l h M
theorem slc_from {call : Nat → List D → Ms → Rs D} {ρ : Rho} {M : Ms} (a : E) (k : Nat) : ev call (.slc a (.int (k : Nat)) .nop) ρ M = (ev call a ρ M).bind (slcM (some ((k : Nat) : Int)) none) := by
  rw [e_slc]
  congr 1
@[simp] theorem slc_from1 {call : Nat → List D → Ms → Rs D} {ρ : Rho} {M : Ms} (a : E) : ev call (.slc a (.int 1) .nop) ρ M = (ev call a ρ M).bind (slcM (some 1) none) := slc_from a 1
@[simp] theorem slcM_t1 (xs : List PyData) (M : Ms) : slcM (some 1) none (.d (.tuple xs)) M = Rs.ok (.d (.tuple xs.tail)) M := by
  have : cutI xs (some 1) none = xs.drop 1 := cut_from xs 1
  simp [slcM, slD, this]

/-! promises -/
def isW (v : PyData) (lo hi : Int) : Bool := match v with
  | .int i => decide (lo ≤ i) && decide (i ≤ hi)
  | _ => false
def isTp (v : PyData) (lo hi : Int) : Bool := match v with
  | .tuple xs => decide (lo ≤ (xs.length : Int)) && decide ((xs.length : Int) ≤ hi)
  | _ => false
def rising (ks : List Int) : Bool := (ks.zip ks.tail).all fun p => decide (p.1 < p.2)
structure Whole (T : List Fd) (wf i : Nat) : Prop where
  ev : ∀ n, 1 ≤ n → ∀ (v : PyData) (lo hi : Int) (M : Ms), evFn T wf n i [.d v, .d (.int lo), .d (.int hi)] M = Rs.ok (.d (.bool (isW v lo hi))) M
structure Tupl (T : List Fd) (wf i : Nat) : Prop where
  ev : ∀ n, 1 ≤ n → ∀ (v : PyData) (lo hi : Int) (M : Ms), evFn T wf n i [.d v, .d (.int lo), .d (.int hi)] M = Rs.ok (.d (.bool (isTp v lo hi))) M
structure Rise (T : List Fd) (wf i : Nat) : Prop where
  ev : ∀ n, 1 ≤ n → ∀ (ks : List Int) (M : Ms), ks.length ≤ 16777216 → evFn T wf n i [.d (.tuple (ks.map .int))] M = Rs.ok (.d (.bool (rising ks))) M
section
variable {T : List Fd} {wf i : Nat}
theorem whole_ok (h : T[i]? = some g_is_whole) : Whole T wf i := by
  refine ⟨fun n hn v lo hi M => ?_⟩
  obtain ⟨n, rfl, hn'⟩ := lev hn
  rw [evF _ h rfl]
  cases v <;> simp [g_is_whole, isW, isTy]
theorem tupl_ok (h : T[i]? = some g_is_tuple_of) : Tupl T wf i := by
  refine ⟨fun n hn v lo hi M => ?_⟩
  obtain ⟨n, rfl, hn'⟩ := lev hn
  rw [evF _ h rfl]
  cases v <;> simp [g_is_tuple_of, isTp, isTy]
theorem rise_ok (h : T[i]? = some g_is_rising) : Rise T wf i := by
  refine ⟨fun n hn ks M hl => ?_⟩
  obtain ⟨n, rfl, hn'⟩ := lev hn
  rw [evF _ h rfl]
  have e0 : (ks.map PyData.int).tail = ks.tail.map PyData.int := by cases ks <;> rfl
  have e1 : zipM [.d (.tuple (ks.map .int)), .d (.tuple (ks.map PyData.int).tail)] M = Rs.ok (.its ((ks.zip ks.tail).map fun p => D.d (.tuple [.int p.1, .int p.2]))) M := by
    rw [e0, zip_t M (by rw [pairs_length]; simp; omega), pairs_ints]
  have e2 := lc_all (call := evFn T wf n) (ρ := [some (.d (.tuple (ks.map .int))), none, none]) (M := M) (elt := .cmp .Lt (.var 1) (.var 2)) (tg := .tp (.cons (.nm 1) (.cons (.nm 2) .nil))) (cond := .nop) (vs := [1, 2]) (f := fun p : Int × Int => D.d (.tuple [.int p.1, .int p.2])) (fun p => .bool (decide (p.1 < p.2))) (l := ks.zip ks.tail) (by
    intro p hp
    rw [lcb (ρ' := [some (.d (.tuple (ks.map .int))), some (.d (.int p.1)), some (.d (.int p.2))]) rfl]
    simp)
  have e3 := b_all (fun p : Int × Int => decide (p.1 < p.2)) (ks.zip ks.tail) M
  simp only [g_is_rising]
  simp [e1, e2, e3, rising]

theorem isW_ints {lo hi : Int} : ∀ {xs : List PyData}, xs.all (fun x => isW x lo hi) = true → ∃ ks : List Int, xs = ks.map .int ∧ ∀ k ∈ ks, lo ≤ k ∧ k ≤ hi
  | [], _ => ⟨[], rfl, fun _ h => by simp at h⟩
  | x :: xs, h => by
    rw [List.all_cons, Bool.and_eq_true] at h
    obtain ⟨ks, rfl, hk⟩ := isW_ints h.2
    cases x with
    | int i =>
      have h1 := h.1
      simp only [isW, Bool.and_eq_true, decide_eq_true_eq] at h1
      exact ⟨i :: ks, rfl, fun k hm => by
        rcases List.mem_cons.mp hm with rfl | hm
        · exact h1
        · exact hk k hm⟩
    | _ => cases h.1
/-- all(f(one) for one in value) of a promise about one thing -/
theorem all_items {call : Nat → List D → Ms → Rs D} {ρ : Rho} {M : Ms} {elt : E} {j : Nat} {f : PyData → Bool} {xs : List PyData} (h : ∀ x ∈ xs, ev call elt ((wipeR ρ [j]).set j (some (.d x))) M = Rs.ok (.d (.bool (f x))) M) :
    lcLoop (lcBody call elt (.nm j) .nop [j] ρ) (xs.map .d) M = Rs.ok (xs.map fun x => .bool (f x)) M :=
  lc_all (f := fun x => D.d x) (fun x => .bool (f x)) fun x hx => by
    rw [lcb rfl, e_nop, Rs.bind_ok, br_t, h x hx, Rs.bind_ok, someD_d, Rs.quiet_ok]
def fitsSome (many : Int) (v : PyData) : Bool := match v with
  | .tuple xs => decide ((xs.length : Int) ≤ many) && xs.all (fun x => isW x 0 (many - 1)) && (match intsOf xs with
    | some ks => rising ks
    | none => false)
  | _ => false
theorem intsOf_map : ∀ ks : List Int, intsOf (ks.map .int) = some ks
  | [] => rfl
  | k :: ks => by rw [List.map_cons, intsOf, intsOf_map ks]; rfl
structure FitsSome (T : List Fd) (wf i : Nat) : Prop where
  ev : ∀ n, 2 ≤ n → ∀ (many : Int) (v : PyData) (M : Ms), many ≤ 16777216 → evFn T wf n i [.d (.int many), .d v] M = Rs.ok (.d (.bool (fitsSome many v))) M
theorem fits_some_ok {i1 i2 i3 : Nat} (h1 : Tupl T wf i1) (h2 : Whole T wf i2) (h3 : Rise T wf i3) (h : T[i]? = some (g_fits_some i1 i2 i3)) : FitsSome T wf i := by
  refine ⟨fun n hn many v M hm => ?_⟩
  obtain ⟨n, rfl, hn'⟩ := lev hn
  rw [evF _ h rfl]
  have e1 := h1.ev n hn' v 0 many M
  cases v with
  | tuple xs =>
    by_cases hl : (xs.length : Int) ≤ many
    · have e2 := all_items (call := evFn T wf n) (ρ := [some (.d (.int many)), some (.d (.tuple xs)), none]) (M := M) (elt := .call i2 (.cons (.var 2) (.cons (.int 0) (.cons (.bin .Sub (.var 0) (.int 1)) .nil)))) (j := 2) (f := fun x => isW x 0 (many - 1)) (xs := xs) (fun x hx => by simp [wipeR, h2.ev n hn'])
      have e3 := b_all (fun x => isW x 0 (many - 1)) xs M
      cases ha : xs.all (fun x => isW x 0 (many - 1)) with
      | false => simp [-List.map_map, g_fits_some, e1, e2, e3, ha, isTp, fitsSome, hl]
      | true =>
        obtain ⟨ks, rfl, hk⟩ := isW_ints ha
        have e4 := h3.ev n hn' ks M (by simp at hl; omega)
        have hl' : (ks.length : Int) ≤ many := by simpa using hl
        simp only [fitsSome, ha, intsOf_map]
        rw [ha] at e3
        simp [-List.map_map, g_fits_some, e1, e2, e3, e4, isTp, hl']
    · simp [g_fits_some, e1, isTp, fitsSome, hl]
  | _ => simp [g_fits_some, e1, isTp, fitsSome]
def fitsStar (v : PyData) : Bool := match v with
  | .tuple [a, b] => isW a 0 359 && isW b 1 9
  | _ => false
structure FitsStar (T : List Fd) (wf i : Nat) : Prop where
  ev : ∀ n, 2 ≤ n → ∀ (v : PyData) (M : Ms), evFn T wf n i [.d v] M = Rs.ok (.d (.bool (fitsStar v))) M
theorem fits_star_ok {i1 i2 : Nat} (h1 : Tupl T wf i1) (h2 : Whole T wf i2) (h : T[i]? = some (g_fits_star i1 i2)) : FitsStar T wf i := by
  refine ⟨fun n hn v M => ?_⟩
  obtain ⟨n, rfl, hn'⟩ := lev hn
  rw [evF _ h rfl]
  have e1 := h1.ev n hn' v 2 2 M
  cases v with
  | tuple xs =>
    match xs with
    | [] => simp [g_fits_star, e1, isTp, fitsStar]
    | [a] => simp [g_fits_star, e1, isTp, fitsStar]
    | [a, b] => simp [g_fits_star, e1, isTp, fitsStar, h2.ev n hn']
    | a :: b :: c :: r =>
      have z : ¬ ((r.length : Int) + 1 + 1 + 1 ≤ 2) := by omega
      simp [g_fits_star, e1, isTp, fitsStar, z]
  | _ => simp [g_fits_star, e1, isTp, fitsStar]
structure NeedSky (T : List Fd) (wf i : Nat) : Prop where
  ev : ∀ n, 4 ≤ n → ∀ (sk : List (Int × Int)) (M : Ms), Sky 24 sk → evFn T wf n i [.d (skyD sk)] M = Rs.ok (.d .none) M
structure FitsSky (T : List Fd) (wf i : Nat) : Prop where
  ev : ∀ n, 3 ≤ n → ∀ (sk : List (Int × Int)) (M : Ms), Sky 24 sk → evFn T wf n i [.d (skyD sk)] M = Rs.ok (.d (.bool true)) M
theorem rising_of {ks : List Int} (h : ks.Pairwise (· < ·)) : rising ks = true := by
  unfold rising
  induction ks with
  | nil => rfl
  | cons a l ih =>
    cases l with
    | nil => rfl
    | cons b l =>
      have h2 := List.pairwise_cons.mp h
      have := ih h2.2
      simp only [List.tail_cons, List.zip_cons_cons, List.all_cons, Bool.and_eq_true, decide_eq_true_eq] at this ⊢
      exact ⟨h2.1 b (by simp), this⟩
theorem fits_sky_ok {i1 i2 i3 : Nat} (h1 : Tupl T wf i1) (h2 : FitsStar T wf i2) (h3 : Rise T wf i3) (h : T[i]? = some (g_fits_sky i1 i2 i3)) : FitsSky T wf i := by
  refine ⟨fun n hn sk M hs => ?_⟩
  obtain ⟨n, rfl, hn'⟩ := lev hn
  rw [evF _ h rfl]
  have e1 := h1.ev n (by omega) (skyD sk) 1 24 M
  have hp := hs.pos
  have hl := hs.len
  have t1 : isTp (skyD sk) 1 24 = true := by
    simp only [isTp, skyD, List.length_map, Bool.and_eq_true, decide_eq_true_eq]
    omega
  rw [t1] at e1
  have e2 := all_items (call := evFn T wf n) (ρ := [some (.d (skyD sk)), none, none, none]) (M := M) (elt := .call i2 (.cons (.var 3) .nil)) (j := 3) (f := fitsStar) (xs := sk.map fun p => .tuple [.int p.1, .int p.2]) (fun x hx => by simp [wipeR, h2.ev n hn'])
  have e3 := b_all fitsStar (sk.map fun p => PyData.tuple [.int p.1, .int p.2]) M
  have ha : (sk.map fun p => PyData.tuple [.int p.1, .int p.2]).all fitsStar = true := by
    rw [List.all_eq_true]
    intro x hx
    obtain ⟨p, hp, rfl⟩ := List.mem_map.mp hx
    obtain ⟨q1, q2, q3, q4⟩ := hs.ok p hp
    simp only [fitsStar, isW, Bool.and_eq_true, decide_eq_true_eq]
    omega
  rw [ha] at e3
  have e4 := h3.ev n (by omega) (sk.map (·.1)) M (by rw [List.length_map]; omega)
  rw [rising_of hs.up] at e4
  have e5 := lc_all (call := evFn T wf n) (ρ := [some (.d (skyD sk)), none, none, none]) (M := M) (elt := .var 1) (tg := .tp (.cons (.nm 1) (.cons (.nm 2) .nil))) (cond := .nop) (vs := [1, 2]) (f := fun p : Int × Int => D.d (.tuple [.int p.1, .int p.2])) (fun p => .int p.1) (l := sk) (by
    intro p hp
    rw [lcb (ρ' := [some (.d (skyD sk)), some (.d (.int p.1)), some (.d (.int p.2)), none]) rfl]
    simp)
  have e6 : ∀ (elt : E) (tg : Tg) (vs : List Nat) (ρ : Rho), lcM (evFn T wf n) elt tg .nop vs ρ (.d (skyD sk)) M = (lcLoop (lcBody (evFn T wf n) elt tg .nop vs ρ) ((sk.map fun p => PyData.tuple [.int p.1, .int p.2]).map .d) M).bind fun ys M6 => Rs.ok (.d (.list ys)) M6 := fun _ _ _ _ => by
    unfold skyD
    rw [lcM_t]
  have e7 : (sk.map fun p => PyData.tuple [.int p.1, .int p.2]).map D.d = sk.map fun p : Int × Int => D.d (.tuple [.int p.1, .int p.2]) := by rw [List.map_map]; rfl
  have e8 : sk.map (fun p : Int × Int => PyData.int p.1) = (sk.map (·.1)).map .int := by rw [List.map_map]; rfl
  rw [e8] at e5
  simp only [g_fits_sky, ss_cons, s_ifs, e_disj, e_not, e_call, e_blt, e_lc, es_cons, es_nil, e_var, e_int, e_gi, List.map_cons, List.map_nil, List.length_cons, List.length_nil, List.cons_append, List.nil_append, List.replicate, List.getD_cons_zero, List.getD_cons_succ, Rs.of_some, Rs.bind_ok]
  simp [-List.map_map, e1, e6, e2, e3]
  rw [e7, e5]
  simp [-List.map_map, e4]
theorem need_sky_ok {i1 : Nat} (h1 : FitsSky T wf i1) (h : T[i]? = some (g_need_sky i1)) : NeedSky T wf i := by
  refine ⟨fun n hn sk M hs => ?_⟩
  obtain ⟨n, rfl, hn'⟩ := lev hn
  rw [evF _ h rfl]
  simp [g_need_sky, h1.ev n hn' sk M hs]
end
end Ob

set_option Elab.async false
set_option linter.all false
set_option maxRecDepth 100000
set_option maxHeartbeats 4000000
/-! a run that ends well, and what holds then: rules, one step at a time -/
namespace Ob
open PySem PySem.Spec PyProof.Rows L2
/-- what shall hold behind; simp does not look into it -/
class Pst (α : Type) where
  q : α → Ms → Prop
class Pso (α : Type) where
  q : α → Prop
class Pth where
  p : Prop
def WP {α : Type} (r : Rs α) {Q : Pst α} : Prop := ∃ a M, r = Rs.ok a M ∧ Q.q a M
def WPO {α : Type} (o : Option α) {Q : Pso α} : Prop := ∃ a, o = some a ∧ Q.q a
def WPB (c : D) {P P' : Pth} : Prop := match c with
  | .d (.bool true) => P.p
  | .d (.bool false) => P'.p
  | _ => False
theorem pst_q {α : Type} (f : α → Ms → Prop) (a : α) (M : Ms) : Pst.q (self := ⟨f⟩) a M = f a M := rfl
theorem pso_q {α : Type} (f : α → Prop) (a : α) : Pso.q (self := ⟨f⟩) a = f a := rfl
theorem pth_p (P : Prop) : Pth.p (self := ⟨P⟩) = P := rfl
section
variable {α β : Type} {r r' : Rs α} {a : α} {M M' : Ms} {Q Q' : Pst α} {k : α → Ms → Rs β}
theorem WP_ok : WP (Rs.ok a M) (Q := Q) = Q.q a M := by
  apply propext
  constructor
  · rintro ⟨b, M', h, q⟩
    have h : (a, M) = (b, M') := by simpa [Rs.ok] using h
    cases h
    exact q
  · exact fun q => ⟨a, M, rfl, q⟩
theorem WPO_some {Q : Pso α} : WPO (some a) (Q := Q) = Q.q a := by
  apply propext
  constructor
  · rintro ⟨b, h, q⟩
    cases h
    exact q
  · exact fun q => ⟨a, rfl, q⟩
theorem WPB_t {P P' : Pth} : WPB (.d (.bool true)) (P := P) (P' := P') = P.p := rfl
theorem WPB_f {P P' : Pth} : WPB (.d (.bool false)) (P := P) (P' := P') = P'.p := rfl
theorem WPB.if {b : Bool} {P P' : Pth} (h1 : b = true → P.p) (h2 : b = false → P'.p) : WPB (.d (.bool b)) (P := P) (P' := P') := by
  cases b
  · exact h2 rfl
  · exact h1 rfl
theorem WPB.T {b : Bool} {P P' : Pth} (h : b = true) (h1 : P.p) : WPB (.d (.bool b)) (P := P) (P' := P') := by rw [h]; exact h1
theorem WPB.F {b : Bool} {P P' : Pth} (h : b = false) (h1 : P'.p) : WPB (.d (.bool b)) (P := P) (P' := P') := by rw [h]; exact h1
theorem WP_bind {Q : Pst β} : WP (r.bind k) (Q := Q) = WP r (Q := ⟨fun a M => WP (k a M) (Q := Q)⟩) := by
  apply propext
  constructor
  · rintro ⟨b, M', h, q⟩
    cases r with
    | none => cases h
    | some e => cases e with
      | error x => cases h
      | ok p => exact ⟨p.1, p.2, rfl, b, M', h, q⟩
  · rintro ⟨b, M', rfl, c, M2, h, q⟩
    exact ⟨c, M2, h, q⟩
theorem WP_none : WP (none : Rs α) (Q := Q) = False := by
  apply propext
  constructor
  · rintro ⟨_, _, h, _⟩; cases h
  · exact False.elim
theorem WP_of {o : Option α} : WP (Rs.of o M) (Q := Q) = WPO o (Q := ⟨fun a => Q.q a M⟩) := by
  cases o with
  | none =>
    apply propext
    constructor
    · rintro ⟨_, _, h, _⟩; cases h
    · rintro ⟨_, h, _⟩; cases h
  | some a => rw [WPO_some]; exact WP_ok
theorem WPO_map {β : Type} {o : Option β} {f : β → α} {Q : Pso α} : WPO (o.map f) (Q := Q) = WPO o (Q := ⟨fun a => Q.q (f a)⟩) := by
  cases o with
  | none =>
    apply propext
    constructor
    · rintro ⟨_, h, _⟩; cases h
    · rintro ⟨_, h, _⟩; cases h
  | some a => rw [Option.map_some, WPO_some, WPO_some]; rfl
theorem WP_br {c : D} {p q : Rs α} : WP (br c p q) (Q := Q) = WPB c (P := ⟨WP p (Q := Q)⟩) (P' := ⟨WP q (Q := Q)⟩) := by
  cases c with
  | d x => cases x with
    | bool b => cases b <;> rfl
    | _ => exact WP_none
  | _ => exact WP_none
theorem WP_quiet : WP r.quiet (Q := Q) = WP r (Q := Q) := by
  cases r with
  | none => rfl
  | some e => cases e with
    | error x =>
      apply propext
      constructor
      · rintro ⟨_, _, h, _⟩; cases h
      · rintro ⟨_, _, h, _⟩; cases h
    | ok p => rfl
theorem WP.mono (h : WP r (Q := Q)) (hq : ∀ a M, Q.q a M → Q'.q a M) : WP r (Q := Q') := by
  obtain ⟨a, M, e, q⟩ := h
  exact ⟨a, M, e, hq a M q⟩
theorem WP.eq (e : r = Rs.ok a M) (q : Q.q a M) : WP r (Q := Q) := ⟨a, M, e, q⟩
theorem WP.to_eq (h : WP r (Q := ⟨fun b M' => b = a ∧ M' = M⟩)) : r = Rs.ok a M := by
  obtain ⟨_, _, e, rfl, rfl⟩ := h
  exact e
end
/-! a def's end -/
def finF (nw : Bool) (n : Nat) (f : Fl) (M : Ms) : Rs D := endF nw n (Rs.ok (f, []) M)
theorem WP_end {nw : Bool} {n : Nat} {r : Rs (Fl × Rho)} {Q : Pst D} : WP (endF nw n r) (Q := Q) = WP r (Q := ⟨fun f M => WP (finF nw n f.1 M) (Q := Q)⟩) := by
  apply propext
  cases r with
  | none =>
    constructor
    · rintro ⟨_, _, h, _⟩; cases h
    · rintro ⟨_, _, h, _⟩; cases h
  | some e => cases e with
    | error x =>
      constructor
      · rintro ⟨_, _, h, _⟩; cases h
      · rintro ⟨_, _, h, _⟩; cases h
    | ok p =>
      obtain ⟨⟨f, ρ⟩, M⟩ := p
      have e : endF nw n (some (.ok ((f, ρ), M))) = finF nw n f M := rfl
      rw [e]
      constructor
      · exact fun h => ⟨(f, ρ), M, rfl, h⟩
      · rintro ⟨_, _, h, q⟩; cases h; exact q
theorem finF_d (n : Nat) (x : PyData) (M : Ms) : finF false n (.rt (.d x)) M = Rs.ok (.d x) (M.take n) := Eq.trans rfl rfl
theorem finF_nx (n : Nat) (M : Ms) : finF false n .nx M = Rs.ok (.d .none) (M.take n) := Eq.trans rfl rfl
theorem finF_l {nw : Bool} {n k : Nat} {xs : List PyData} {M : Ms} (h : n ≤ k) (e : M[k]? = some (.lst xs)) : finF nw n (.rt (.own k)) M = Rs.ok (.d (.list xs)) (M.take n) := endF_l h e
theorem finF_new (nw : Bool) (xs : List PyData) (M : Ms) : finF nw M.length (.rt (.own M.length)) (M ++ [.lst xs]) = Rs.ok (.d (.list xs)) M := endF_new nw xs [] M
theorem take_all (M : Ms) : M.take M.length = M := List.take_length
theorem take_app (M N : Ms) : (M ++ N).take M.length = M := List.take_left
/-! the rows -/
theorem bt_nm (i : Nat) (x : D) (ρ : Rho) : bindTg (.nm i) x ρ = some (ρ.set i (some x)) := by rw [bindTg]
theorem bt_tp (ts : Tgs) (xs : List PyData) (ρ : Rho) : bindTg (.tp ts) (.d (.tuple xs)) ρ = bindTgs ts xs ρ := by rw [bindTg]
theorem bts_nil (ρ : Rho) : bindTgs .nil [] ρ = some ρ := by rw [bindTgs]
theorem bts_cons (t : Tg) (ts : Tgs) (x : PyData) (xs : List PyData) (ρ : Rho) : bindTgs (.cons t ts) (x :: xs) ρ = (bindTg t (.d x) ρ).bind fun ρ1 => bindTgs ts xs ρ1 := by
  rw [bindTgs]
  cases bindTg t (.d x) ρ <;> rfl
theorem wipe_nil (ρ : Rho) : wipeR ρ [] = ρ := rfl
theorem wipe_cons (ρ : Rho) (v : Nat) (vs : List Nat) : wipeR ρ (v :: vs) = (wipeR ρ vs).set v none := rfl
section
variable {call : Nat → List D → Ms → Rs D} {ρ : Rho} {M : Ms} {wf : Nat}
theorem s_asg' (tg : Tg) (e : E) : evS call wf (.asg tg e) ρ M = (ev call e ρ M).bind fun x M1 => (Rs.of (bindTg tg x ρ) M1).bind fun ρ1 M2 => Rs.ok (.nx, ρ1) M2 := by
  rw [s_asg]
  congr 1
  funext x M1
  cases bindTg tg x ρ <;> rfl
theorem s_put' (i : Nat) (k v : E) : evS call wf (.put i k v) ρ M = (Rs.of (ρ.getD i none) M).bind fun x M => (ev call v ρ M).bind fun z M1 => (ev call k ρ M1).bind fun y M3 => putR x y z ρ M3 := by
  cases e : ρ.getD i none with
  | none => rw [evS, e]; rfl
  | some x => rw [s_put _ _ _ e]; rfl
def appR (x y : D) (ρ : Rho) (M : Ms) : Rs (Fl × Rho) := match y with
  | .d y => match appM M x y with
    | some M3 => Rs.ok (.nx, ρ) M3
    | none => none
  | _ => none
def guardR (b : Bool) (M : Ms) : Rs Unit := if b = true then Rs.ok () M else none
theorem guardR_t (M : Ms) : guardR true M = Rs.ok () M := rfl
theorem s_app' (i : Nat) (e : E) : evS call wf (.app i e) ρ M = (Rs.of (ρ.getD i none) M).bind fun x M => (guardR (isLst M x) M).bind fun _ M => (ev call e ρ M).bind fun y M2 => appR x y ρ M2 := by
  rw [evS]
  cases ρ.getD i none with
  | none => rfl
  | some x =>
    show (if isLst M x = true then _ else none) = (guardR (isLst M x) M).bind _
    cases isLst M x
    · rfl
    · rfl
def augR (i : Nat) (op : Operator) (x y : D) (ρ : Rho) (M1 : Ms) : Rs (Fl × Rho) := match op, x, y with
  | .Add, .d (.int a), .d (.int b) => Rs.ok (.nx, ρ.set i (some (.d (.int (a + b))))) M1
  | .Sub, .d (.int a), .d (.int b) => Rs.ok (.nx, ρ.set i (some (.d (.int (a - b))))) M1
  | .Add, .own n, .d (.list ys) => match M1[n]? with
    | some (.lst xs) => if line (xs.length + ys.length) = true then Rs.ok (.nx, ρ) (M1.set n (.lst (xs ++ ys))) else none
    | _ => none
  | _, _, _ => none
theorem s_aug' (i : Nat) (op : Operator) (e : E) : evS call wf (.aug i op e) ρ M = (Rs.of (ρ.getD i none) M).bind fun x M => (ev call e ρ M).bind fun y M1 => augR i op x y ρ M1 := by
  rw [evS]
  cases ρ.getD i none with
  | none => rfl
  | some x => rfl
theorem lcb' {elt : E} {tg : Tg} {cond : E} {vs : List Nat} {x : D} : lcBody call elt tg cond vs ρ x M = (Rs.of (bindTg tg x (wipeR ρ vs)) M).bind fun ρ' M => ((ev call cond ρ' M).bind fun c M3 => br c ((ev call elt ρ' M3).bind someD) (Rs.ok none M3)).quiet := by
  cases e : bindTg tg x (wipeR ρ vs) with
  | none => unfold lcBody; rw [e]; rfl
  | some ρ' => rw [lcb e]; rfl
theorem fb' {tg : Tg} {b : Ss} {x : D} : fbody call wf tg b x ρ M = (Rs.of (bindTg tg x ρ) M).bind fun ρ' M => evSs call wf b ρ' M := by
  unfold fbody
  cases bindTg tg x ρ <;> rfl
def lrgM (t : Bool) (xs : List D) (M1 : Ms) : Rs D := match rangeOf xs with
    | some ys => match datas ys with
      | some zs => if line zs.length = true then Rs.ok (.d (if t then .tuple zs else .list zs)) M1 else none
      | none => none
    | none => none
def sstM (x : D) (M1 : Ms) : Rs D := match x with
  | .d (.list xs) => match intsOf xs with
    | some ks => if ks.length < 64 then Rs.ok (.d (.list ((once ks).map .int))) M1 else none
    | none => none
  | _ => none
def lixM (ds : List PyData) (y : D) (M1 : Ms) : Rs D := match y with
  | .d d => if (shp (.list ds) && shp d) = true then match ds.findIdx? (fun z => PyData.eqv z d) with
      | some j => Rs.ok (.d (.int (j : Nat))) M1
      | none => none
    else none
  | _ => none
theorem e_lix (i : Nat) (k : E) (ds : List PyData) (h : ρ.getD i none = some (.d (.list ds))) : ev call (.lix i k) ρ M = (ev call k ρ M).bind (lixM ds) := by rw [ev, h]; rfl
theorem e_sst (e : E) : ev call (.sst e) ρ M = (ev call e ρ M).bind sstM := by rw [ev]; rfl
theorem e_lrg (t : Bool) (es : Es) : ev call (.lrg t es) ρ M = (evs call es ρ M).bind (lrgM t) := by rw [ev]; rfl
def enmM (x : D) (M1 : Ms) : Rs D := match x with
    | .d (.list xs) => if line xs.length = true then Rs.ok (.its (nums 0 xs)) M1 else none
    | _ => none
theorem e_enm (e : E) : ev call (.enm e) ρ M = (ev call e ρ M).bind enmM := by rw [ev]; rfl
def getK (x : D) (y : D) (M2 : Ms) : Rs D := match y with
        | .d y => match dlook M2 x y with
          | some r => Rs.ok (.d (r.getD .none)) M2
          | none => none
        | _ => none
theorem e_get (i : Nat) (k : E) : ev call (.get i k) ρ M = (Rs.of (ρ.getD i none) M).bind fun x M => (guardR (isDct M x) M).bind fun _ M => (ev call k ρ M).bind fun y M2 => getK x y M2 := by
  rw [ev]
  cases ρ.getD i none with
  | none => rfl
  | some x =>
    show (if isDct M x = true then _ else none) = (guardR (isDct M x) M).bind _
    cases isDct M x
    · rfl
    · rfl
def getKV (x y z : D) (M3 : Ms) : Rs D := match y, z with
        | .d y, .d z => match dlook M3 x y with
          | some r => Rs.ok (.d (r.getD z)) M3
          | none => none
        | _, _ => none
theorem e_get2 (i : Nat) (k v : E) : ev call (.get2 i k v) ρ M = (Rs.of (ρ.getD i none) M).bind fun x M => (guardR (isDct M x) M).bind fun _ M => (ev call k ρ M).bind fun y M2 => (ev call v ρ M2).bind fun z M3 => getKV x y z M3 := by
  rw [ev]
  cases ρ.getD i none with
  | none => rfl
  | some x =>
    show (if isDct M x = true then _ else none) = (guardR (isDct M x) M).bind _
    cases isDct M x
    · rfl
    · rfl
def forOM (call : Nat → List D → Ms → Rs D) (wf : Nat) (tg : Tg) (b : Ss) (ρ : Rho) (x : D) (M : Ms) : Rs (Fl × Rho) := match x with
    | .own n => match lockO M n with
      | some (xs, M1) => (forLoop (fbody call wf tg b) xs ρ M1).bind fun f M2 => match unlockO M2 n with
          | some M3 => Rs.ok f M3
          | none => none
      | none => none
    | _ => none
theorem s_forO (tg : Tg) (i : Nat) (b : Ss) : evS call wf (.forO tg i b) ρ M = (Rs.of (ρ.getD i none) M).bind fun x M => forOM call wf tg b ρ x M := by
  rw [evS]
  cases ρ.getD i none with
  | none => rfl
  | some x => cases x <;> rfl
theorem s_whl (t : E) (b : Ss) : evS call wf (.whl t b) ρ M = whlLoop (fun ρ M => ev call t ρ M) (fun ρ M => evSs call wf b ρ M) wf ρ M := by rw [evS]
def lcOM (call : Nat → List D → Ms → Rs D) (elt : E) (tg : Tg) (cond : E) (vs : List Nat) (ρ : Rho) (x : D) (M : Ms) : Rs D := match x with
    | .own n => match lockO M n with
      | some (xs, M1) => (lcLoop (lcBody call elt tg cond vs ρ) xs M1).bind fun ys M6 => match unlockO M6 n with
            | some M7 => Rs.ok (.d (.list ys)) M7
            | none => none
      | none => none
    | _ => none
theorem e_lcO (elt : E) (tg : Tg) (i : Nat) (cond : E) (vs : List Nat) : ev call (.lcO elt tg i cond vs) ρ M = (Rs.of (ρ.getD i none) M).bind fun x M => lcOM call elt tg cond vs ρ x M := by
  rw [ev]
  cases ρ.getD i none with
  | none => rfl
  | some x => cases x <;> rfl
end

section
variable {call : Nat → List D → Ms → Rs D} {ρ : Rho} {M : Ms} {wf : Nat}
section
variable {Q : Pst D}
theorem wz_var (i : Nat) : WP (ev call (.var i) ρ M) (Q := Q) = WPO (ρ.getD i none) (Q := ⟨fun x => Q.q x M⟩) := by simp +instances only [e_var, WP_bind, WP_of, WP_br, WP_ok, WP_quiet]
theorem wz_int (i : Int) : WP (ev call (.int i) ρ M) (Q := Q) = Q.q (.d (.int i)) M := by simp +instances only [e_int, WP_bind, WP_of, WP_br, WP_ok, WP_quiet]
theorem wz_bl (b : Bool) : WP (ev call (.bl b) ρ M) (Q := Q) = Q.q (.d (.bool b)) M := by simp +instances only [e_bl, WP_bind, WP_of, WP_br, WP_ok, WP_quiet]
theorem wz_non  : WP (ev call (.non) ρ M) (Q := Q) = Q.q (.d .none) M := by simp +instances only [e_non, WP_bind, WP_of, WP_br, WP_ok, WP_quiet]
theorem wz_str (s : Str) : WP (ev call (.str s) ρ M) (Q := Q) = Q.q (.d (.str s)) M := by simp +instances only [e_str, WP_bind, WP_of, WP_br, WP_ok, WP_quiet]
theorem wz_gi (x : Str) (i : Int) : WP (ev call (.gi x i) ρ M) (Q := Q) = Q.q (.d (.int i)) M := by simp +instances only [e_gi, WP_bind, WP_of, WP_br, WP_ok, WP_quiet]
theorem wz_bin (op : Operator) (a b : E) : WP (ev call (.bin op a b) ρ M) (Q := Q) = WP (ev call a ρ M) (Q := ⟨fun x M1 => WP (ev call b ρ M1) (Q := ⟨fun y M2 => WP (oprD op x y M2) (Q := Q)⟩)⟩) := by simp +instances only [e_bin, WP_bind, WP_of, WP_br, WP_ok, WP_quiet]
theorem wz_neg (a : E) : WP (ev call (.neg a) ρ M) (Q := Q) = WP (ev call a ρ M) (Q := ⟨fun x M1 => WP (negD x M1) (Q := Q)⟩) := by simp +instances only [e_neg, WP_bind, WP_of, WP_br, WP_ok, WP_quiet]
theorem wz_cmp (op : CmpOp) (a b : E) : WP (ev call (.cmp op a b) ρ M) (Q := Q) = WP (ev call a ρ M) (Q := ⟨fun x M1 => WP (ev call b ρ M1) (Q := ⟨fun y M2 => WP (cmpD op x y M2) (Q := Q)⟩)⟩) := by simp +instances only [e_cmp, WP_bind, WP_of, WP_br, WP_ok, WP_quiet]
theorem wz_cmp2 (op op2 : CmpOp) (a b c : E) : WP (ev call (.cmp2 op op2 a b c) ρ M) (Q := Q) = WP (ev call a ρ M) (Q := ⟨fun x M1 => WP (ev call b ρ M1) (Q := ⟨fun y M2 => WP (cmpD op x y M2) (Q := ⟨fun r M3 => WPB r (P := ⟨WP (ev call c ρ M3) (Q := ⟨fun z M4 => WP (cmpD op2 y z M4) (Q := Q)⟩)⟩) (P' := ⟨Q.q (.d (.bool false)) M3⟩)⟩)⟩)⟩) := by simp +instances only [e_cmp2, WP_bind, WP_of, WP_br, WP_ok, WP_quiet]
theorem wz_conj (a b : E) : WP (ev call (.conj a b) ρ M) (Q := Q) = WP (ev call a ρ M) (Q := ⟨fun x M1 => WPB x (P := ⟨WP (ev call b ρ M1) (Q := Q)⟩) (P' := ⟨Q.q (.d (.bool false)) M1⟩)⟩) := by simp +instances only [e_conj, WP_bind, WP_of, WP_br, WP_ok, WP_quiet]
theorem wz_disj (a b : E) : WP (ev call (.disj a b) ρ M) (Q := Q) = WP (ev call a ρ M) (Q := ⟨fun x M1 => WPB x (P := ⟨Q.q (.d (.bool true)) M1⟩) (P' := ⟨WP (ev call b ρ M1) (Q := Q)⟩)⟩) := by simp +instances only [e_disj, WP_bind, WP_of, WP_br, WP_ok, WP_quiet]
theorem wz_not (a : E) : WP (ev call (.not a) ρ M) (Q := Q) = WP (ev call a ρ M) (Q := ⟨fun x M1 => WP (notD x M1) (Q := Q)⟩) := by simp +instances only [e_not, WP_bind, WP_of, WP_br, WP_ok, WP_quiet]
theorem wz_ite (t a b : E) : WP (ev call (.ite t a b) ρ M) (Q := Q) = WP (ev call t ρ M) (Q := ⟨fun x M1 => WPB x (P := ⟨WP (ev call a ρ M1) (Q := Q)⟩) (P' := ⟨WP (ev call b ρ M1) (Q := Q)⟩)⟩) := by simp +instances only [e_ite, WP_bind, WP_of, WP_br, WP_ok, WP_quiet]
theorem wz_tup (es : Es) : WP (ev call (.tup es) ρ M) (Q := Q) = WP (evs call es ρ M) (Q := ⟨fun xs M1 => WP (seqMk true xs M1) (Q := Q)⟩) := by simp +instances only [e_tup, WP_bind, WP_of, WP_br, WP_ok, WP_quiet]
theorem wz_lst (es : Es) : WP (ev call (.lst es) ρ M) (Q := Q) = WP (evs call es ρ M) (Q := ⟨fun xs M1 => WP (seqMk false xs M1) (Q := Q)⟩) := by simp +instances only [e_lst, WP_bind, WP_of, WP_br, WP_ok, WP_quiet]
theorem wz_ix (a b : E) : WP (ev call (.ix a b) ρ M) (Q := Q) = WP (ev call a ρ M) (Q := ⟨fun x M1 => WP (ev call b ρ M1) (Q := ⟨fun y M2 => WP (ixD x y M2) (Q := Q)⟩)⟩) := by simp +instances only [e_ix, WP_bind, WP_of, WP_br, WP_ok, WP_quiet]
theorem wz_rev (a : E) : WP (ev call (.rev a) ρ M) (Q := Q) = WP (ev call a ρ M) (Q := ⟨fun x M1 => WP (revD x M1) (Q := Q)⟩) := by simp +instances only [e_rev, WP_bind, WP_of, WP_br, WP_ok, WP_quiet]
theorem wz_nop  : WP (ev call (.nop) ρ M) (Q := Q) = Q.q (.d (.bool true)) M := by simp +instances only [e_nop, WP_bind, WP_of, WP_br, WP_ok, WP_quiet]
theorem wz_call (f : Nat) (es : Es) : WP (ev call (.call f es) ρ M) (Q := Q) = WP (evs call es ρ M) (Q := ⟨fun xs M1 => WP (call f xs M1) (Q := Q)⟩) := by simp +instances only [e_call, WP_bind, WP_of, WP_br, WP_ok, WP_quiet]
theorem wz_blt (b : Bt) (es : Es) : WP (ev call (.blt b es) ρ M) (Q := Q) = WP (evs call es ρ M) (Q := ⟨fun xs M1 => WPO ((callOp b xs M1).map .d) (Q := ⟨fun x => Q.q x M1⟩)⟩) := by simp +instances only [e_blt, WP_bind, WP_of, WP_br, WP_ok, WP_quiet]
theorem wz_isi (a : E) (t : Ty) : WP (ev call (.isi a t) ρ M) (Q := Q) = WP (ev call a ρ M) (Q := ⟨fun x M1 => WP (isiD t x M1) (Q := Q)⟩) := by simp +instances only [e_isi, WP_bind, WP_of, WP_br, WP_ok, WP_quiet]
theorem wz_lc (elt : E) (tg : Tg) (it cond : E) (vs : List Nat) : WP (ev call (.lc elt tg it cond vs) ρ M) (Q := Q) = WP (ev call it ρ M) (Q := ⟨fun w M1 => WP (lcM call elt tg cond vs ρ w M1) (Q := Q)⟩) := by simp +instances only [e_lc, WP_bind, WP_of, WP_br, WP_ok, WP_quiet]
theorem wz_lcO (elt : E) (tg : Tg) (i : Nat) (cond : E) (vs : List Nat) : WP (ev call (.lcO elt tg i cond vs) ρ M) (Q := Q) = WPO (ρ.getD i none) (Q := ⟨fun x => WP (lcOM call elt tg cond vs ρ x M) (Q := Q)⟩) := by simp +instances only [e_lcO, WP_bind, WP_of, WP_br, WP_ok, WP_quiet]
theorem wz_rng (es : Es) : WP (ev call (.rng es) ρ M) (Q := Q) = WP (evs call es ρ M) (Q := ⟨fun xs M1 => WP (rngM xs M1) (Q := Q)⟩) := by simp +instances only [e_rng, WP_bind, WP_of, WP_br, WP_ok, WP_quiet]
theorem wz_zip (es : Es) : WP (ev call (.zip es) ρ M) (Q := Q) = WP (evs call es ρ M) (Q := ⟨fun xs M1 => WP (zipM xs M1) (Q := Q)⟩) := by simp +instances only [e_zipM, WP_bind, WP_of, WP_br, WP_ok, WP_quiet]
theorem wz_sst (e : E) : WP (ev call (.sst e) ρ M) (Q := Q) = WP (ev call e ρ M) (Q := ⟨fun x M1 => WP (sstM x M1) (Q := Q)⟩) := by simp +instances only [e_sst, WP_bind, WP_of, WP_br, WP_ok, WP_quiet]
theorem wz_lrg (t : Bool) (es : Es) : WP (ev call (.lrg t es) ρ M) (Q := Q) = WP (evs call es ρ M) (Q := ⟨fun xs M1 => WP (lrgM t xs M1) (Q := Q)⟩) := by simp +instances only [e_lrg, WP_bind, WP_of, WP_br, WP_ok, WP_quiet]
theorem wz_enm (e : E) : WP (ev call (.enm e) ρ M) (Q := Q) = WP (ev call e ρ M) (Q := ⟨fun x M1 => WP (enmM x M1) (Q := Q)⟩) := by simp +instances only [e_enm, WP_bind, WP_of, WP_br, WP_ok, WP_quiet]
theorem wz_get (i : Nat) (k : E) : WP (ev call (.get i k) ρ M) (Q := Q) = WPO (ρ.getD i none) (Q := ⟨fun x => WP (guardR (isDct M x) M) (Q := ⟨fun _ M => WP (ev call k ρ M) (Q := ⟨fun y M2 => WP (getK x y M2) (Q := Q)⟩)⟩)⟩) := by simp +instances only [e_get, WP_bind, WP_of, WP_br, WP_ok, WP_quiet]
theorem wz_get2 (i : Nat) (k v : E) : WP (ev call (.get2 i k v) ρ M) (Q := Q) = WPO (ρ.getD i none) (Q := ⟨fun x => WP (guardR (isDct M x) M) (Q := ⟨fun _ M => WP (ev call k ρ M) (Q := ⟨fun y M2 => WP (ev call v ρ M2) (Q := ⟨fun z M3 => WP (getKV x y z M3) (Q := Q)⟩)⟩)⟩)⟩) := by simp +instances only [e_get2, WP_bind, WP_of, WP_br, WP_ok, WP_quiet]
end
section
variable {Q : Pst (List D)}
theorem wz_esn  : WP (evs call .nil ρ M) (Q := Q) = Q.q [] M := by simp +instances only [es_nil, WP_bind, WP_of, WP_br, WP_ok, WP_quiet]
theorem wz_esc (e : E) (es : Es) : WP (evs call (.cons e es) ρ M) (Q := Q) = WP (ev call e ρ M) (Q := ⟨fun x M1 => WP (evs call es ρ M1) (Q := ⟨fun xs M2 => Q.q (x :: xs) M2⟩)⟩) := by simp +instances only [es_cons, WP_bind, WP_of, WP_br, WP_ok, WP_quiet]
theorem wz_pn  : WP (evPar call [] .nil ρ M) (Q := Q) = Q.q [] M := by simp +instances only [p_nil, WP_bind, WP_of, WP_br, WP_ok, WP_quiet]
theorem wz_pc (i : Nat) (m : Md) (is : List (Nat × Md)) (e : E) (es : Es) : WP (evPar call ((i, m) :: is) (.cons e es) ρ M) (Q := Q) = WP (evM call m e ρ M) (Q := ⟨fun x M1 => WP (evPar call is es ρ M1) (Q := ⟨fun xs M2 => Q.q (x :: xs) M2⟩)⟩) := by simp +instances only [p_cons, WP_bind, WP_of, WP_br, WP_ok, WP_quiet]
end
section
variable {Q : Pst D}
theorem wz_mv (e : E) : WP (evM call .v e ρ M) (Q := Q) = WP (ev call e ρ M) (Q := Q) := by simp +instances only [m_v, WP_bind, WP_of, WP_br, WP_ok, WP_quiet]
theorem wz_ml (e : E) : WP (evM call .l e ρ M) (Q := Q) = WP (ev call e ρ M) (Q := ⟨fun x M1 => WP (layL x M1) (Q := Q)⟩) := by simp +instances only [m_l, WP_bind, WP_of, WP_br, WP_ok, WP_quiet]
theorem wz_mk  : WP (evM call .k (.dct .nil .nil) ρ M) (Q := Q) = Q.q (.own M.length) (M ++ [.dK []]) := by simp +instances only [m_k, WP_bind, WP_of, WP_br, WP_ok, WP_quiet]
theorem wz_mt  : WP (evM call .t (.dct .nil .nil) ρ M) (Q := Q) = Q.q (.own M.length) (M ++ [.dT []]) := by simp +instances only [m_t, WP_bind, WP_of, WP_br, WP_ok, WP_quiet]
end
section
variable {Q : Pst (Fl × Rho)}
theorem wz_asg1 (i : Nat) (e : E) : WP (evS call wf (.asg (.nm i) e) ρ M) (Q := Q) = WP (ev call e ρ M) (Q := ⟨fun x M1 => Q.q (.nx, ρ.set i (some x)) M1⟩) := by simp +instances only [s_asg1, WP_bind, WP_of, WP_br, WP_ok, WP_quiet]
theorem wz_asgt (ts : Tgs) (e : E) : WP (evS call wf (.asg (.tp ts) e) ρ M) (Q := Q) = WP (ev call e ρ M) (Q := ⟨fun x M1 => WPO (bindTg (.tp ts) x ρ) (Q := ⟨fun ρ1 => Q.q (.nx, ρ1) M1⟩)⟩) := by simp +instances only [s_asg', WP_bind, WP_of, WP_br, WP_ok, WP_quiet]
theorem wz_new (i : Nat) (m : Md) (e : E) : WP (evS call wf (.new i m e) ρ M) (Q := Q) = WP (evM call m e ρ M) (Q := ⟨fun x M1 => Q.q (.nx, ρ.set i (some x)) M1⟩) := by simp +instances only [s_new, WP_bind, WP_of, WP_br, WP_ok, WP_quiet]
theorem wz_par (is : List (Nat × Md)) (es : Es) : WP (evS call wf (.par is es) ρ M) (Q := Q) = WP (evPar call is es ρ M) (Q := ⟨fun xs M1 => Q.q (.nx, setAll is xs ρ) M1⟩) := by simp +instances only [s_par, WP_bind, WP_of, WP_br, WP_ok, WP_quiet]
theorem wz_put (i : Nat) (k v : E) : WP (evS call wf (.put i k v) ρ M) (Q := Q) = WPO (ρ.getD i none) (Q := ⟨fun x => WP (ev call v ρ M) (Q := ⟨fun z M1 => WP (ev call k ρ M1) (Q := ⟨fun y M3 => WP (putR x y z ρ M3) (Q := Q)⟩)⟩)⟩) := by simp +instances only [s_put', WP_bind, WP_of, WP_br, WP_ok, WP_quiet]
theorem wz_app (i : Nat) (e : E) : WP (evS call wf (.app i e) ρ M) (Q := Q) = WPO (ρ.getD i none) (Q := ⟨fun x => WP (guardR (isLst M x) M) (Q := ⟨fun _ M => WP (ev call e ρ M) (Q := ⟨fun y M2 => WP (appR x y ρ M2) (Q := Q)⟩)⟩)⟩) := by simp +instances only [s_app', WP_bind, WP_of, WP_br, WP_ok, WP_quiet]
theorem wz_aug (i : Nat) (op : Operator) (e : E) : WP (evS call wf (.aug i op e) ρ M) (Q := Q) = WPO (ρ.getD i none) (Q := ⟨fun x => WP (ev call e ρ M) (Q := ⟨fun y M1 => WP (augR i op x y ρ M1) (Q := Q)⟩)⟩) := by simp +instances only [s_aug', WP_bind, WP_of, WP_br, WP_ok, WP_quiet]
theorem wz_ex (e : E) : WP (evS call wf (.ex e) ρ M) (Q := Q) = WP (ev call e ρ M) (Q := ⟨fun _ M1 => Q.q (.nx, ρ) M1⟩) := by simp +instances only [s_ex, WP_bind, WP_of, WP_br, WP_ok, WP_quiet]
theorem wz_ifs (t : E) (a b : Ss) : WP (evS call wf (.ifs t a b) ρ M) (Q := Q) = WP (ev call t ρ M) (Q := ⟨fun c M1 => WPB c (P := ⟨WP (evSs call wf a ρ M1) (Q := Q)⟩) (P' := ⟨WP (evSs call wf b ρ M1) (Q := Q)⟩)⟩) := by simp +instances only [s_ifs, WP_bind, WP_of, WP_br, WP_ok, WP_quiet]
theorem wz_fors (tg : Tg) (it : E) (b : Ss) : WP (evS call wf (.fors tg it b) ρ M) (Q := Q) = WP (ev call it ρ M) (Q := ⟨fun w M1 => WP (forM' call wf tg b ρ w M1) (Q := Q)⟩) := by simp +instances only [s_fors, WP_bind, WP_of, WP_br, WP_ok, WP_quiet]
theorem wz_forO (tg : Tg) (i : Nat) (b : Ss) : WP (evS call wf (.forO tg i b) ρ M) (Q := Q) = WPO (ρ.getD i none) (Q := ⟨fun x => WP (forOM call wf tg b ρ x M) (Q := Q)⟩) := by simp +instances only [s_forO, WP_bind, WP_of, WP_br, WP_ok, WP_quiet]
theorem wz_whl (t : E) (b : Ss) : WP (evS call wf (.whl t b) ρ M) (Q := Q) = WP (whlLoop (fun ρ M => ev call t ρ M) (fun ρ M => evSs call wf b ρ M) wf ρ M) (Q := Q) := by simp +instances only [s_whl, WP_bind, WP_of, WP_br, WP_ok, WP_quiet]
theorem wz_ret (e : E) : WP (evS call wf (.ret e) ρ M) (Q := Q) = WP (ev call e ρ M) (Q := ⟨fun x M1 => Q.q (.rt x, ρ) M1⟩) := by simp +instances only [s_ret, WP_bind, WP_of, WP_br, WP_ok, WP_quiet]
theorem wz_retL (e : E) : WP (evS call wf (.retL e) ρ M) (Q := Q) = WP (evM call .l e ρ M) (Q := ⟨fun x M1 => Q.q (.rt x, ρ) M1⟩) := by simp +instances only [s_retL, WP_bind, WP_of, WP_br, WP_ok, WP_quiet]
theorem wz_ret0  : WP (evS call wf (.ret0) ρ M) (Q := Q) = Q.q (.rt (.d .none), ρ) M := by simp +instances only [s_ret0, WP_bind, WP_of, WP_br, WP_ok, WP_quiet]
theorem wz_brk  : WP (evS call wf (.brk) ρ M) (Q := Q) = Q.q (.bk, ρ) M := by simp +instances only [s_brk, WP_bind, WP_of, WP_br, WP_ok, WP_quiet]
theorem wz_cont  : WP (evS call wf (.cont) ρ M) (Q := Q) = Q.q (.ct, ρ) M := by simp +instances only [s_cont, WP_bind, WP_of, WP_br, WP_ok, WP_quiet]
theorem wz_pass  : WP (evS call wf (.pass) ρ M) (Q := Q) = Q.q (.nx, ρ) M := by simp +instances only [s_pass, WP_bind, WP_of, WP_br, WP_ok, WP_quiet]
theorem wz_ssn  : WP (evSs call wf .nil ρ M) (Q := Q) = Q.q (.nx, ρ) M := by simp +instances only [ss_nil, WP_bind, WP_of, WP_br, WP_ok, WP_quiet]
theorem wz_ssc (a : S) (b : Ss) : WP (evSs call wf (.cons a b) ρ M) (Q := Q) = WP (evS call wf a ρ M) (Q := ⟨fun f M1 => WP (nxt call wf b f M1) (Q := Q)⟩) := by simp +instances only [ss_cons, WP_bind, WP_of, WP_br, WP_ok, WP_quiet]
theorem wz_fb (tg : Tg) (b : Ss) (x : D) : WP (fbody call wf tg b x ρ M) (Q := Q) = WPO (bindTg tg x ρ) (Q := ⟨fun ρ' => WP (evSs call wf b ρ' M) (Q := Q)⟩) := by simp +instances only [fb', WP_bind, WP_of, WP_br, WP_ok, WP_quiet]
end
section
variable {Q : Pst (Option PyData)}
theorem wz_lcb (elt : E) (tg : Tg) (cond : E) (vs : List Nat) (x : D) : WP (lcBody call elt tg cond vs ρ x M) (Q := Q) = WPO (bindTg tg x (wipeR ρ vs)) (Q := ⟨fun ρ' => WP (ev call cond ρ' M) (Q := ⟨fun c M3 => WPB c (P := ⟨WP (ev call elt ρ' M3) (Q := ⟨fun y M4 => WP (someD y M4) (Q := Q)⟩)⟩) (P' := ⟨Q.q none M3⟩)⟩)⟩) := by simp +instances only [lcb', WP_bind, WP_of, WP_br, WP_ok, WP_quiet]
end
end
/-! loops -/
theorem WP.for {body : D → Rho → Ms → Rs (Fl × Rho)} {xs : List D} {ρ : Rho} {M : Ms} {Q : Pst (Fl × Rho)} (I : Nat → Rho → Ms → Prop) (h0 : I 0 ρ M)
    (step : ∀ i x ρ M, xs[i]? = some x → I i ρ M → WP (body x ρ M) (Q := ⟨fun f M' => f.1 = .nx ∧ I (i + 1) f.2 M'⟩))
    (done : ∀ ρ M, I xs.length ρ M → Q.q (.nx, ρ) M) : WP (forLoop body xs ρ M) (Q := Q) := by
  obtain ⟨ρ', M', e, h⟩ := forLoop_inv I h0 fun i x ρ M hx hi => by
    obtain ⟨⟨f, ρ1⟩, M1, e, rfl, h⟩ := step i x ρ M hx hi
    exact ⟨ρ1, M1, e, h⟩
  exact ⟨(.nx, ρ'), M', e, done ρ' M' h⟩
/-- a loop that may also return, or break -/
theorem WP.forR {body : D → Rho → Ms → Rs (Fl × Rho)} {Q : Pst (Fl × Rho)} : ∀ {xs : List D} {ρ : Rho} {M : Ms} (I : Nat → Rho → Ms → Prop), I 0 ρ M →
    (∀ i x ρ M, xs[i]? = some x → I i ρ M → WP (body x ρ M) (Q := ⟨fun f M' => match f with
      | (.nx, ρ1) => I (i + 1) ρ1 M'
      | (.ct, ρ1) => I (i + 1) ρ1 M'
      | (.bk, ρ1) => Q.q (.nx, ρ1) M'
      | (.rt d, ρ1) => Q.q (.rt d, ρ1) M'⟩)) →
    (∀ ρ M, I xs.length ρ M → Q.q (.nx, ρ) M) → WP (forLoop body xs ρ M) (Q := Q)
  | [], ρ, M, I, h0, _, done => by
    rw [forLoop, WP_ok]
    exact done ρ M h0
  | x :: xs, ρ, M, I, h0, step, done => by
    rw [forLoop, WP_bind]
    refine (step 0 x ρ M rfl h0).mono ?_
    rintro ⟨f, ρ1⟩ M1 h
    cases f with
    | nx => exact WP.forR (xs := xs) (fun i => I (i + 1)) h (fun i y ρ M hy hi => step (i + 1) y ρ M (by simpa using hy) hi) fun ρ M h => done ρ M (by simpa using h)
    | ct => exact WP.forR (xs := xs) (fun i => I (i + 1)) h (fun i y ρ M hy hi => step (i + 1) y ρ M (by simpa using hy) hi) fun ρ M h => done ρ M (by simpa using h)
    | bk => show WP (Rs.ok _ _) (Q := Q); rw [WP_ok]; exact h
    | rt d => show WP (Rs.ok _ _) (Q := Q); rw [WP_ok]; exact h
/-- by the items of a list -/
theorem WP.forM {α : Type} {body : D → Rho → Ms → Rs (Fl × Rho)} {l : List α} {g : α → D} {ρ : Rho} {M : Ms} {Q : Pst (Fl × Rho)} (I : List α → Rho → Ms → Prop) (h0 : I [] ρ M)
    (step : ∀ l1 a l2 ρ M, l = l1 ++ a :: l2 → I l1 ρ M → WP (body (g a) ρ M) (Q := ⟨fun f M' => f.1 = .nx ∧ I (l1 ++ [a]) f.2 M'⟩))
    (done : ∀ ρ M, I l ρ M → Q.q (.nx, ρ) M) : WP (forLoop body (l.map g) ρ M) (Q := Q) := by
  refine WP.for (fun i => I (l.take i)) (by simpa using h0) (fun i x ρ M hx hi => ?_) (fun ρ M h => done ρ M (by simpa using h))
  rw [List.getElem?_map, Option.map_eq_some_iff] at hx
  obtain ⟨a, ha, rfl⟩ := hx
  obtain ⟨hi2, rfl⟩ := List.getElem?_eq_some_iff.mp ha
  have e : l.take (i + 1) = l.take i ++ [l[i]] := (List.take_append_getElem hi2).symm
  rw [e]
  exact step (l.take i) l[i] (l.drop (i + 1)) ρ M (by rw [← List.drop_eq_getElem_cons, List.take_append_drop]) hi
/-- a comprehension that calls nothing that writes -/
theorem WP.lc {α : Type} {call : Nat → List D → Ms → Rs D} {elt : E} {tg : Tg} {cond : E} {vs : List Nat} {ρ : Rho} {M : Ms} {f : α → D} {l : List α} {Q : Pst (List PyData)} (g : α → Option PyData)
    (h : ∀ a ∈ l, WP (lcBody call elt tg cond vs ρ (f a) M) (Q := ⟨fun o M' => o = g a ∧ M' = M⟩)) (q : Q.q (l.filterMap g) M) : WP (lcLoop (lcBody call elt tg cond vs ρ) (l.map f) M) (Q := Q) :=
  WP.eq (lc_map g fun a ha => (h a ha).to_eq) q
theorem WP.lcA {α : Type} {call : Nat → List D → Ms → Rs D} {elt : E} {tg : Tg} {cond : E} {vs : List Nat} {ρ : Rho} {M : Ms} {f : α → D} {l : List α} {Q : Pst (List PyData)} (g : α → PyData)
    (h : ∀ a ∈ l, WP (lcBody call elt tg cond vs ρ (f a) M) (Q := ⟨fun o M' => o = some (g a) ∧ M' = M⟩)) (q : Q.q (l.map g) M) : WP (lcLoop (lcBody call elt tg cond vs ρ) (l.map f) M) (Q := Q) :=
  WP.eq (lc_all g fun a ha => (h a ha).to_eq) q
/-- .. with a test -/
theorem WP.lcF {α : Type} {call : Nat → List D → Ms → Rs D} {elt : E} {tg : Tg} {cond : E} {vs : List Nat} {ρ : Rho} {M : Ms} {f : α → D} {l : List α} {Q : Pst (List PyData)} (p : α → Bool) (g : α → PyData)
    (h : ∀ a ∈ l, WP (lcBody call elt tg cond vs ρ (f a) M) (Q := ⟨fun o M' => o = (if p a = true then some (g a) else none) ∧ M' = M⟩)) (q : Q.q ((l.filter p).map g) M) : WP (lcLoop (lcBody call elt tg cond vs ρ) (l.map f) M) (Q := Q) := by
  refine WP.lc (fun a => if p a = true then some (g a) else none) h ?_
  have : ∀ l : List α, l.filterMap (fun a => if p a = true then some (g a) else none) = (l.filter p).map g := by
    intro l
    induction l with
    | nil => rfl
    | cons a l ih => by_cases hp : p a = true <;> simp [List.filterMap_cons, List.filter_cons, hp, ih]
  rw [this]
  exact q
/-- .. that draws: by an invariant -/
theorem WP.lcI {body : D → Ms → Rs (Option PyData)} {xs : List D} {M : Ms} {Q : Pst (List PyData)} (I : Nat → List PyData → Ms → Prop) (h0 : I 0 [] M)
    (step : ∀ i x acc M, xs[i]? = some x → I i acc M → WP (body x M) (Q := ⟨fun o M' => I (i + 1) (acc ++ consO o []) M'⟩))
    (done : ∀ ys M, I xs.length ys M → Q.q ys M) : WP (lcLoop body xs M) (Q := Q) := by
  obtain ⟨ys, M', e, h⟩ := lcLoop_inv I h0 fun i x acc M hx hi => step i x acc M hx hi
  exact ⟨ys, M', e, done ys M' (by simpa using h)⟩
/-! tuples and lists of told items -/
theorem seqMk_ds (t : Bool) (ys : List PyData) (M : Ms) (h : ys.length ≤ 16777216) : seqMk t (ys.map .d) M = Rs.ok (.d (if t then .tuple ys else .list ys)) M := by
  have e : datas (ys.map .d) = some ys := by
    clear h
    induction ys with
    | nil => rfl
    | cons y ys ih => rw [List.map_cons, datas_cons, ih]; rfl
  have hl : line ys.length = true := decide_eq_true h
  simp [seqMk, e, hl]
section
variable (M : Ms) (a b c d e f g h i j k l m n o p : PyData)
theorem tT0 : seqMk true [] M = Rs.ok (.d (.tuple [])) M := seqMk_ds true [] M (by decide)
theorem tT1 : seqMk true [.d a] M = Rs.ok (.d (.tuple [a])) M := seqMk_ds true [a] M (by simp)
theorem tT2 : seqMk true [.d a, .d b] M = Rs.ok (.d (.tuple [a, b])) M := seqMk_ds true [a, b] M (by simp)
theorem tT3 : seqMk true [.d a, .d b, .d c] M = Rs.ok (.d (.tuple [a, b, c])) M := seqMk_ds true [a, b, c] M (by simp)
theorem tT4 : seqMk true [.d a, .d b, .d c, .d d] M = Rs.ok (.d (.tuple [a, b, c, d])) M := seqMk_ds true [a, b, c, d] M (by simp)
theorem tT5 : seqMk true [.d a, .d b, .d c, .d d, .d e] M = Rs.ok (.d (.tuple [a, b, c, d, e])) M := seqMk_ds true [a, b, c, d, e] M (by simp)
theorem tT6 : seqMk true [.d a, .d b, .d c, .d d, .d e, .d f] M = Rs.ok (.d (.tuple [a, b, c, d, e, f])) M := seqMk_ds true [a, b, c, d, e, f] M (by simp)
theorem tT7 : seqMk true [.d a, .d b, .d c, .d d, .d e, .d f, .d g] M = Rs.ok (.d (.tuple [a, b, c, d, e, f, g])) M := seqMk_ds true [a, b, c, d, e, f, g] M (by simp)
theorem tT8 : seqMk true [.d a, .d b, .d c, .d d, .d e, .d f, .d g, .d h] M = Rs.ok (.d (.tuple [a, b, c, d, e, f, g, h])) M := seqMk_ds true [a, b, c, d, e, f, g, h] M (by simp)
theorem tT9 : seqMk true [.d a, .d b, .d c, .d d, .d e, .d f, .d g, .d h, .d i] M = Rs.ok (.d (.tuple [a, b, c, d, e, f, g, h, i])) M := seqMk_ds true [a, b, c, d, e, f, g, h, i] M (by simp)
theorem tT10 : seqMk true [.d a, .d b, .d c, .d d, .d e, .d f, .d g, .d h, .d i, .d j] M = Rs.ok (.d (.tuple [a, b, c, d, e, f, g, h, i, j])) M := seqMk_ds true [a, b, c, d, e, f, g, h, i, j] M (by simp)
theorem tT11 : seqMk true [.d a, .d b, .d c, .d d, .d e, .d f, .d g, .d h, .d i, .d j, .d k] M = Rs.ok (.d (.tuple [a, b, c, d, e, f, g, h, i, j, k])) M := seqMk_ds true [a, b, c, d, e, f, g, h, i, j, k] M (by simp)
theorem tT12 : seqMk true [.d a, .d b, .d c, .d d, .d e, .d f, .d g, .d h, .d i, .d j, .d k, .d l] M = Rs.ok (.d (.tuple [a, b, c, d, e, f, g, h, i, j, k, l])) M := seqMk_ds true [a, b, c, d, e, f, g, h, i, j, k, l] M (by simp)
theorem tL0 : seqMk false [] M = Rs.ok (.d (.list [])) M := seqMk_ds false [] M (by decide)
theorem tL1 : seqMk false [.d a] M = Rs.ok (.d (.list [a])) M := seqMk_ds false [a] M (by simp)
theorem tL2 : seqMk false [.d a, .d b] M = Rs.ok (.d (.list [a, b])) M := seqMk_ds false [a, b] M (by simp)
theorem tL3 : seqMk false [.d a, .d b, .d c] M = Rs.ok (.d (.list [a, b, c])) M := seqMk_ds false [a, b, c] M (by simp)
theorem tL4 : seqMk false [.d a, .d b, .d c, .d d] M = Rs.ok (.d (.list [a, b, c, d])) M := seqMk_ds false [a, b, c, d] M (by simp)
theorem tL5 : seqMk false [.d a, .d b, .d c, .d d, .d e] M = Rs.ok (.d (.list [a, b, c, d, e])) M := seqMk_ds false [a, b, c, d, e] M (by simp)
theorem tL6 : seqMk false [.d a, .d b, .d c, .d d, .d e, .d f] M = Rs.ok (.d (.list [a, b, c, d, e, f])) M := seqMk_ds false [a, b, c, d, e, f] M (by simp)
theorem tL7 : seqMk false [.d a, .d b, .d c, .d d, .d e, .d f, .d g] M = Rs.ok (.d (.list [a, b, c, d, e, f, g])) M := seqMk_ds false [a, b, c, d, e, f, g] M (by simp)
theorem tL8 : seqMk false [.d a, .d b, .d c, .d d, .d e, .d f, .d g, .d h] M = Rs.ok (.d (.list [a, b, c, d, e, f, g, h])) M := seqMk_ds false [a, b, c, d, e, f, g, h] M (by simp)
theorem tL9 : seqMk false [.d a, .d b, .d c, .d d, .d e, .d f, .d g, .d h, .d i] M = Rs.ok (.d (.list [a, b, c, d, e, f, g, h, i])) M := seqMk_ds false [a, b, c, d, e, f, g, h, i] M (by simp)
theorem tL10 : seqMk false [.d a, .d b, .d c, .d d, .d e, .d f, .d g, .d h, .d i, .d j] M = Rs.ok (.d (.list [a, b, c, d, e, f, g, h, i, j])) M := seqMk_ds false [a, b, c, d, e, f, g, h, i, j] M (by simp)
theorem tL11 : seqMk false [.d a, .d b, .d c, .d d, .d e, .d f, .d g, .d h, .d i, .d j, .d k] M = Rs.ok (.d (.list [a, b, c, d, e, f, g, h, i, j, k])) M := seqMk_ds false [a, b, c, d, e, f, g, h, i, j, k] M (by simp)
theorem tL12 : seqMk false [.d a, .d b, .d c, .d d, .d e, .d f, .d g, .d h, .d i, .d j, .d k, .d l] M = Rs.ok (.d (.list [a, b, c, d, e, f, g, h, i, j, k, l])) M := seqMk_ds false [a, b, c, d, e, f, g, h, i, j, k, l] M (by simp)
theorem tL13 : seqMk false [.d a, .d b, .d c, .d d, .d e, .d f, .d g, .d h, .d i, .d j, .d k, .d l, .d m] M = Rs.ok (.d (.list [a, b, c, d, e, f, g, h, i, j, k, l, m])) M := seqMk_ds false [a, b, c, d, e, f, g, h, i, j, k, l, m] M (by simp)
theorem tL14 : seqMk false [.d a, .d b, .d c, .d d, .d e, .d f, .d g, .d h, .d i, .d j, .d k, .d l, .d m, .d n] M = Rs.ok (.d (.list [a, b, c, d, e, f, g, h, i, j, k, l, m, n])) M := seqMk_ds false [a, b, c, d, e, f, g, h, i, j, k, l, m, n] M (by simp)
theorem tL15 : seqMk false [.d a, .d b, .d c, .d d, .d e, .d f, .d g, .d h, .d i, .d j, .d k, .d l, .d m, .d n, .d o] M = Rs.ok (.d (.list [a, b, c, d, e, f, g, h, i, j, k, l, m, n, o])) M := seqMk_ds false [a, b, c, d, e, f, g, h, i, j, k, l, m, n, o] M (by simp)
theorem tL16 : seqMk false [.d a, .d b, .d c, .d d, .d e, .d f, .d g, .d h, .d i, .d j, .d k, .d l, .d m, .d n, .d o, .d p] M = Rs.ok (.d (.list [a, b, c, d, e, f, g, h, i, j, k, l, m, n, o, p])) M := seqMk_ds false [a, b, c, d, e, f, g, h, i, j, k, l, m, n, o, p] M (by simp)
end
theorem opt_map_some {α β : Type} (f : α → β) (a : α) : (some a).map f = some (f a) := rfl
theorem opt_bind_some {α β : Type} (f : α → Option β) (a : α) : (some a).bind f = f a := rfl
theorem layL_cup (a b : Int) : layL (.d (.list [.int a, .int b])) [] = Rs.ok (.own 0) [cupM (a, b)] := rfl
/-! draws -/
section
variable {T : List Fd} {wf i : Nat} {rv : Int × Int → Int → Int} {rc : Int × Int → Int → Int × Int}
theorem WP.roll (K : Rolls T wf i rv rc) {n : Nat} {c : Int × Int} {m : Int} {R : Ms} {Q : Pst D} (hn : 1 ≤ n) (h0 : 0 < m) (h1 : m < 18446744073709551616) (q : ∀ v c', 0 ≤ v → v < m → Q.q (.d (.int v)) (cupM c' :: R)) :
    WP (evFn T wf n i [.own 0, .d (.int m)] (cupM c :: R)) (Q := Q) :=
  WP.eq (K.ev n hn c m R h0 h1) (q _ _ (K.lt c m h0).1 (K.lt c m h0).2)
theorem WP.pick {roll : Nat} (K : Rolls T wf roll rv rc) (h : T[i]? = some (fSome roll)) {n : Nat} {c : Int × Int} {xs : List PyData} {R : Ms} {Q : Pst D} (hn : 2 ≤ n) (hx : 0 < xs.length) (hx2 : xs.length < 18446744073709551616) (q : ∀ x c', x ∈ xs → Q.q (.d x) (cupM c' :: R)) :
    WP (evFn T wf n i [.own 0, .d (.list xs)] (cupM c :: R)) (Q := Q) := by
  obtain ⟨x, hx, e⟩ := some_ok K h hn c xs hx hx2 R
  exact WP.eq e (q _ _ hx)
theorem WP.sky {roll sm : Nat} (K : Rolls T wf roll rv rc) (hs : T[sm]? = some (fSome roll)) (h : T[i]? = some (fSky roll sm)) {n : Nat} {c : Int × Int} {stars : Int} {Q : Pst D} (hn : 3 ≤ n) (h0 : 0 < stars) (h1 : stars < 60) (q : ∀ sk c', Sky stars.toNat sk → Q.q (.d (skyD sk)) [cupM c']) :
    WP (evFn T wf n i [.own 0, .d (.int stars)] [cupM c]) (Q := Q) := by
  obtain ⟨k, rfl⟩ : ∃ k : Nat, stars = (k : Int) := ⟨stars.toNat, by omega⟩
  obtain ⟨sk, c', e, hs⟩ := sky_ok K hs h hn c k (by omega) (by omega)
  exact WP.eq e (q _ _ (by simpa using hs))
theorem WP.same (h : T[i]? = some (fSame i)) {n : Nat} {x y : PyData} {M : Ms} {Q : Pst D} (e : x = y) (hp : pl y = true) (hd : y.depth + 1 ≤ n) (q : Q.q (.d (.bool true)) M) : WP (evFn T wf n i [.d x, .d y] M) (Q := Q) := by
  subst e
  exact WP.eq (same_ok h x.depth x hp (Nat.le_refl _) n hd M) q
end
end Ob

set_option Elab.async false
set_option linter.all false
set_option maxRecDepth 100000
set_option maxHeartbeats 4000000
/-! ranges of integers -/
namespace Ob
open PySem PySem.Spec PyProof.Rows L2
def irange (a b : Int) : List Int := (List.range (b - a).toNat).map fun i => a + ((i : Nat) : Int)
theorem mem_irange {a b x : Int} : x ∈ irange a b ↔ a ≤ x ∧ x < b := by
  unfold irange
  rw [List.mem_map]
  constructor
  · rintro ⟨i, hi, rfl⟩
    have := List.mem_range.mp hi
    omega
  · rintro ⟨h1, h2⟩
    exact ⟨(x - a).toNat, List.mem_range.mpr (by omega), by omega⟩
theorem irange_len (a b : Int) : (irange a b).length = (b - a).toNat := by simp [irange]
theorem irange_get {a b : Int} {i : Nat} (h : i < (b - a).toNat) : (irange a b)[i]? = some (a + (i : Nat)) := by
  unfold irange
  rw [List.getElem?_map, List.getElem?_range h]
  rfl
theorem irange_nil {a b : Int} (h : b ≤ a) : irange a b = [] := by
  unfold irange
  rw [show (b - a).toNat = 0 by omega]
  rfl
theorem irange_cons {a b : Int} (h : a < b) : irange a b = a :: irange (a + 1) b := by
  unfold irange
  obtain ⟨k, hk⟩ : ∃ k, (b - a).toNat = k + 1 := ⟨(b - a).toNat - 1, by omega⟩
  rw [hk, show (b - (a + 1)).toNat = k by omega, List.range_succ_eq_map, List.map_cons, List.map_map]
  congr 1
  · omega
  · apply List.map_congr_left
    intro i _
    show a + ((i + 1 : Nat) : Int) = a + 1 + (i : Nat)
    omega
theorem irange_snoc {a b : Int} (h : a ≤ b) : irange a (b + 1) = irange a b ++ [b] := by
  unfold irange
  rw [show (b + 1 - a).toNat = (b - a).toNat + 1 by omega, List.range_succ, List.map_append]
  congr 1
  rw [List.map_cons, List.map_nil]
  congr 1
  omega
theorem irange_app {a b c : Int} (h1 : a ≤ b) (h2 : b ≤ c) : irange a c = irange a b ++ irange b c := by
  obtain ⟨k, rfl⟩ : ∃ k : Nat, c = b + (k : Nat) := ⟨(c - b).toNat, by omega⟩
  induction k with
  | zero => rw [show b + ((0 : Nat) : Int) = b by omega, irange_nil (Int.le_refl b), List.append_nil]
  | succ k ih =>
    rw [show b + ((k + 1 : Nat) : Int) = b + (k : Nat) + 1 by omega, irange_snoc (by omega), irange_snoc (by omega), ih (by omega), List.append_assoc]
theorem irange_one (a : Int) : irange a (a + 1) = [a] := by rw [irange_snoc (Int.le_refl a), irange_nil (Int.le_refl a)]; rfl
theorem irange_up (a b : Int) : (irange a b).Pairwise (· < ·) := by
  unfold irange
  rw [List.pairwise_map]
  exact List.pairwise_lt_range.imp fun h => by omega
theorem irange_nodup (a b : Int) : (irange a b).Nodup := (irange_up a b).imp fun h e => by omega
theorem irange_map_add (a b k : Int) : (irange a b).map (· + k) = irange (a + k) (b + k) := by
  unfold irange
  rw [List.map_map, show b + k - (a + k) = b - a by omega]
  apply List.map_congr_left
  intro i _
  show a + ((i : Nat) : Int) + k = a + k + (i : Nat)
  omega
theorem exO {ρ : Rho} {f : (Nat → Option D) → Rho} (h : ρ = f (fun i => ρ.getD i none)) : ∃ o, ρ = f o := ⟨_, h⟩
def isD (l : List Int) : List D := l.map fun i => .d (.int i)
theorem isD_map (l : List Int) : List.map D.d (List.map PyData.int l) = isD l := by rw [isD, List.map_map]; rfl
theorem rngD (a b : Int) : ((List.range (b - a).toNat).map fun i => D.d (.int (a + ((i : Nat) : Int)))) = isD (irange a b) := by
  unfold isD irange
  rw [List.map_map]
  rfl
theorem rng_z {b : Int} (M : Ms) (h1 : -16777216 ≤ b) (h2 : b ≤ 16777216) : rngM [.d (.int b)] M = Rs.ok (.its (isD (irange 0 b))) M := by
  have h3 : -(2 ^ 62) ≤ (0 : Int) ∧ (0 : Int) < 2 ^ 62 ∧ -(2 ^ 62) ≤ b ∧ b < 2 ^ 62 ∧ line (b - 0).toNat = true ∧ line (0 - b).toNat = true := ⟨by omega, by omega, by omega, by omega, decide_eq_true (by omega), decide_eq_true (by omega)⟩
  simp only [rngM, rangeOf, rangeD]
  rw [if_pos h3, ← rngD]
  rfl
theorem rng_zz {a b : Int} (M : Ms) (h1 : -1000000000 ≤ a) (h2 : a ≤ 1000000000) (h3 : -16777216 ≤ b - a) (h4 : b - a ≤ 16777216) : rngM [.d (.int a), .d (.int b)] M = Rs.ok (.its (isD (irange a b))) M := by
  have h3 : -(2 ^ 62) ≤ a ∧ a < 2 ^ 62 ∧ -(2 ^ 62) ≤ b ∧ b < 2 ^ 62 ∧ line (b - a).toNat = true ∧ line (a - b).toNat = true := ⟨by omega, by omega, by omega, by omega, decide_eq_true (by omega), decide_eq_true (by omega)⟩
  simp only [rngM, rangeOf, rangeD]
  rw [if_pos h3, ← rngD]
  rfl
/-- range(a, b, -1) -/
def idown (a b : Int) : List Int := (irange (b + 1) (a + 1)).reverse
theorem rng_down {a b : Int} (M : Ms) (h1 : -1000000000 ≤ a) (h2 : a ≤ 1000000000) (h3 : -16777216 ≤ b - a) (h4 : b - a ≤ 16777216) : rngM [.d (.int a), .d (.int b), .d (.int (-1))] M = Rs.ok (.its (isD (idown a b))) M := by
  have h3 : -(2 ^ 62) ≤ a ∧ a < 2 ^ 62 ∧ -(2 ^ 62) ≤ b ∧ b < 2 ^ 62 ∧ line (b - a).toNat = true ∧ line (a - b).toNat = true := ⟨by omega, by omega, by omega, by omega, decide_eq_true (by omega), decide_eq_true (by omega)⟩
  have e : ((List.range (a - b).toNat).map fun i => D.d (.int (a - ((i : Nat) : Int)))) = isD (idown a b) := by
    have e2 : (List.range (a - b).toNat).map (fun i => a - ((i : Nat) : Int)) = idown a b := by
      unfold idown irange
      rw [← List.map_reverse, show (a + 1 - (b + 1)).toNat = (a - b).toNat by omega]
      apply List.ext_getElem
      · simp
      · intro i h1 h2
        simp at h1 ⊢
        omega
    unfold isD
    rw [← e2, List.map_map]
    rfl
  simp only [rngM, rangeOf, rangeD]
  rw [if_pos h3, if_neg (by decide), if_pos (by decide), e]
  rfl
/-- a loop over a range -/
theorem WP.forZ {body : D → Rho → Ms → Rs (Fl × Rho)} {a b : Int} {ρ : Rho} {M : Ms} {Q : Pst (Fl × Rho)} (I : Int → Rho → Ms → Prop) (hab : a ≤ b) (h0 : I a ρ M)
    (step : ∀ i ρ M, a ≤ i → i < b → I i ρ M → WP (body (.d (.int i)) ρ M) (Q := ⟨fun f M' => f.1 = .nx ∧ I (i + 1) f.2 M'⟩))
    (done : ∀ ρ M, I b ρ M → Q.q (.nx, ρ) M) : WP (forLoop body (isD (irange a b)) ρ M) (Q := Q) := by
  refine WP.for (fun i => I (a + (i : Nat))) (by simpa using h0) (fun i x ρ M hx hi => ?_) (fun ρ M h => done ρ M ?_)
  · unfold isD at hx
    rw [List.getElem?_map, Option.map_eq_some_iff] at hx
    obtain ⟨z, hz, rfl⟩ := hx
    have hl := (List.getElem?_eq_some_iff.mp hz).1
    rw [irange_len] at hl
    rw [irange_get hl] at hz
    cases hz
    have := step (a + (i : Nat)) ρ M (by omega) (by omega) hi
    rwa [show a + ((i + 1 : Nat) : Int) = a + (i : Nat) + 1 by omega]
  · unfold isD at h
    rw [List.length_map, irange_len] at h
    rwa [show a + (((b - a).toNat : Nat) : Int) = b by omega] at h
theorem WP.lcZ {call : Nat → List D → Ms → Rs D} {elt : E} {tg : Tg} {cond : E} {vs : List Nat} {ρ : Rho} {M : Ms} {l : List Int} {Q : Pst (List PyData)} (g : Int → PyData)
    (h : ∀ a ∈ l, WP (lcBody call elt tg cond vs ρ (.d (.int a)) M) (Q := ⟨fun o M' => o = some (g a) ∧ M' = M⟩)) (q : Q.q (l.map g) M) : WP (lcLoop (lcBody call elt tg cond vs ρ) (isD l) M) (Q := Q) := WP.lcA g h q
theorem WP.lcZF {call : Nat → List D → Ms → Rs D} {elt : E} {tg : Tg} {cond : E} {vs : List Nat} {ρ : Rho} {M : Ms} {l : List Int} {Q : Pst (List PyData)} (p : Int → Bool) (g : Int → PyData)
    (h : ∀ a ∈ l, WP (lcBody call elt tg cond vs ρ (.d (.int a)) M) (Q := ⟨fun o M' => o = (if p a = true then some (g a) else none) ∧ M' = M⟩)) (q : Q.q ((l.filter p).map g) M) : WP (lcLoop (lcBody call elt tg cond vs ρ) (isD l) M) (Q := Q) := WP.lcF p g h q
theorem WP.lcZI {body : D → Ms → Rs (Option PyData)} {a b : Int} {M : Ms} {Q : Pst (List PyData)} (I : Int → List PyData → Ms → Prop) (hab : a ≤ b) (h0 : I a [] M)
    (step : ∀ (i : Int) (acc : List PyData) (M : Ms), a ≤ i → i < b → I i acc M → WP (body (.d (.int i)) M) (Q := ⟨fun o M' => I (i + 1) (acc ++ consO o []) M'⟩))
    (done : ∀ (ys : List PyData) (M : Ms), I b ys M → Q.q ys M) : WP (lcLoop body (isD (irange a b)) M) (Q := Q) := by
  refine WP.lcI (fun i => I (a + (i : Nat))) (by simpa using h0) (fun i x acc M hx hi => ?_) (fun ys M h => done ys M ?_)
  · unfold isD at hx
    rw [List.getElem?_map, Option.map_eq_some_iff] at hx
    obtain ⟨z, hz, rfl⟩ := hx
    have hl := (List.getElem?_eq_some_iff.mp hz).1
    rw [irange_len] at hl
    rw [irange_get hl] at hz
    cases hz
    have := step (a + (i : Nat)) acc M (by omega) (by omega) hi
    rwa [show a + ((i + 1 : Nat) : Int) = a + (i : Nat) + 1 by omega]
  · unfold isD at h
    rw [List.length_map, irange_len] at h
    rwa [show a + (((b - a).toNat : Nat) : Int) = b by omega] at h
/-- ascending numbers below one -/
structure Lot (many : Int) (l : List Int) : Prop where
  up : l.Pairwise (· < ·)
  ok : ∀ s ∈ l, 0 ≤ s ∧ s < many
theorem lot_nil (m : Int) : Lot m [] := ⟨.nil, fun s hs => by simp at hs⟩
theorem lot_up {m : Int} {l : List Int} (h : Lot m l) : Lot (m + 1) l := ⟨h.up, fun s hs => by have := h.ok s hs; omega⟩
theorem lot_snoc {m : Int} {l : List Int} (h : Lot m l) (hm : 0 ≤ m) : Lot (m + 1) (l ++ [m]) := ⟨by
  rw [List.pairwise_append]
  exact ⟨h.up, by simp, fun a ha b hb => by
    have := h.ok a ha
    have : b = m := by simpa using hb
    omega⟩, fun s hs => by
  rcases List.mem_append.mp hs with hs | hs
  · have := h.ok s hs
    omega
  · have : s = m := by simpa using hs
    omega⟩
theorem up_len : ∀ {l : List Int} {a b : Int}, l.Pairwise (· < ·) → (∀ s ∈ l, a ≤ s ∧ s < b) → a ≤ b → (l.length : Int) ≤ b - a
  | [], a, b, _, _, h => by simp; omega
  | x :: l, a, b, hp, hm, h => by
    have h1 := List.pairwise_cons.mp hp
    have hx := hm x (by simp)
    have := up_len (l := l) (a := x + 1) (b := b) h1.2 (fun s hs => by
      have := h1.1 s hs
      have := hm s (by simp [hs])
      omega) (by omega)
    rw [List.length_cons]
    omega
theorem lot_len {many : Int} {l : List Int} (h : Lot many l) (hm : 0 ≤ many) : (l.length : Int) ≤ many := by
  have := up_len h.up h.ok hm
  omega
theorem lot_all (m : Int) : Lot m (irange 0 m) := ⟨irange_up _ _, fun s hs => mem_irange.mp hs⟩
/-! places -/
theorem atI_in {α : Type} {xs : List α} {i : Int} {y : α} (h0 : 0 ≤ i) (h : xs[i.toNat]? = some y) : atI xs i = some y := by
  obtain ⟨k, rfl⟩ : ∃ k : Nat, i = (k : Nat) := ⟨i.toNat, by omega⟩
  rw [atI_nat]
  simpa using h
theorem ix_tz {xs : List PyData} {i : Int} {y : PyData} (M : Ms) (h0 : 0 ≤ i) (h : xs[i.toNat]? = some y) : ixD (.d (.tuple xs)) (.d (.int i)) M = Rs.ok (.d y) M := by
  simp [ixD, idx, atI_in h0 h]
theorem ix_lz {xs : List PyData} {i : Int} {y : PyData} (M : Ms) (h0 : 0 ≤ i) (h : xs[i.toNat]? = some y) : ixD (.d (.list xs)) (.d (.int i)) M = Rs.ok (.d y) M := by
  simp [ixD, idx, atI_in h0 h]
/-- a row told step by step -/
theorem ix_row {g : Int → PyData} {b i : Int} (M : Ms) (h0 : 0 ≤ i) (h : i < b) : ixD (.d (.list ((irange 0 b).map g))) (.d (.int i)) M = Rs.ok (.d (g i)) M := by
  refine ix_lz M h0 ?_
  rw [List.getElem?_map, irange_get (by omega)]
  show some (g (0 + (i.toNat : Int))) = _
  rw [show 0 + (i.toNat : Int) = i by omega]
theorem ix_rowT {g : Int → PyData} {b i : Int} (M : Ms) (h0 : 0 ≤ i) (h : i < b) : ixD (.d (.tuple ((irange 0 b).map g))) (.d (.int i)) M = Rs.ok (.d (g i)) M := by
  refine ix_tz M h0 ?_
  rw [List.getElem?_map, irange_get (by omega)]
  show some (g (0 + (i.toNat : Int))) = _
  rw [show 0 + (i.toNat : Int) = i by omega]
/-! filters over a range -/
theorem filter_one {l : List Int} {p : Int → Bool} {k : Int} (hn : l.Nodup) (hk : k ∈ l) (h : ∀ x ∈ l, p x = true ↔ x = k) : l.filter p = [k] := by
  induction l with
  | nil => simp at hk
  | cons a l ih =>
    have hn2 := List.nodup_cons.mp hn
    by_cases e : a = k
    · subst e
      have : l.filter p = [] := by
        rw [List.filter_eq_nil_iff]
        intro x hx hp
        have := (h x (by simp [hx])).mp hp
        subst this
        exact hn2.1 hx
      rw [List.filter_cons, if_pos ((h a (by simp)).mpr rfl), this]
    · rw [List.filter_cons, if_neg (fun q => e ((h a (by simp)).mp q))]
      have hk2 : k ∈ l := by
        rcases List.mem_cons.mp hk with q | q
        · exact absurd q.symm e
        · exact q
      exact ih hn2.2 hk2 fun x hx => h x (by simp [hx])
theorem filter_two {a b : Int} {p : Int → Bool} {k m : Int} (hk : a ≤ k) (hkm : k < m) (hm : m < b) (h : ∀ x, a ≤ x → x < b → (p x = true ↔ x = k ∨ x = m)) : (irange a b).filter p = [k, m] := by
  rw [irange_app (b := m) (by omega) (by omega), List.filter_append]
  rw [filter_one (irange_nodup _ _) (mem_irange.mpr ⟨hk, hkm⟩) fun x hx => by
    have := mem_irange.mp hx
    rw [h x this.1 (by omega)]
    omega]
  rw [filter_one (k := m) (irange_nodup _ _) (mem_irange.mpr ⟨by omega, hm⟩) fun x hx => by
    have := mem_irange.mp hx
    rw [h x (by omega) this.2]
    omega]
  rfl
/-- how often, over a whole period, wherever it begins -/
theorem cnt_shift {p : Int → Bool} {P : Int} (hP : 0 ≤ P) (h : ∀ x, p (x + P) = p x) (k : Nat) : ((irange (k : Nat) (k + P)).filter p).length = ((irange 0 P).filter p).length := by
  induction k with
  | zero => simp
  | succ k ih =>
    rw [← ih]
    by_cases h0 : P = 0
    · subst h0
      rw [irange_nil (by omega), irange_nil (by omega)]
    have e1 : irange ((k : Nat) : Int) ((k : Nat) + P) = (k : Int) :: irange (((k + 1 : Nat)) : Int) ((k : Nat) + P) := by
      rw [irange_cons (by omega)]
      congr 2
    have e2 : irange (((k + 1 : Nat)) : Int) (((k + 1 : Nat) : Int) + P) = irange (((k + 1 : Nat)) : Int) ((k : Nat) + P) ++ [(k : Nat) + P] := by
      rw [show (((k + 1 : Nat)) : Int) + P = (k : Nat) + P + 1 by omega, irange_snoc (by omega)]
    rw [e1, e2, List.filter_append, List.length_append, List.filter_cons]
    have e3 := h (k : Nat)
    rw [List.filter_cons, List.filter_nil, e3]
    by_cases hp : p (k : Nat) = true <;> simp [hp] <;> omega
theorem irange_shift (p : Int → Bool) (a k : Int) (b : Int) : ((irange a b).filter fun t => p (k + t)).length = ((irange (k + a) (k + b)).filter p).length := by
  rw [show k + a = a + k by omega, show k + b = b + k by omega, ← irange_map_add, List.filter_map, List.length_map]
  congr 2
  funext t
  show p (k + t) = p (t + k)
  rw [Int.add_comm]
theorem sst_l {ks : List Int} (M : Ms) (h : ks.length < 64) : sstM (.d (.list (ks.map .int))) M = Rs.ok (.d (.list ((once ks).map .int))) M := by
  unfold sstM
  simp only [intsOf_map]
  rw [if_pos h]
end Ob

set_option Elab.async false
set_option linter.all false
set_option maxRecDepth 100000
set_option maxHeartbeats 4000000
/-! more rows: slices, minima, comprehensions of two -/
namespace Ob
open PySem PySem.Spec PyProof.Rows L2
section
variable {call : Nat → List D → Ms → Rs D} {ρ : Rho} {M : Ms} {wf : Nat}
theorem nop_int (i : Int) : isNop (.int i) = false := rfl
theorem nop_neg (a : E) : isNop (.neg a) = false := rfl
theorem nop_var (i : Nat) : isNop (.var i) = false := rfl
theorem nop_bin (o : Operator) (a b : E) : isNop (.bin o a b) = false := rfl
theorem nop_ix (a b : E) : isNop (.ix a b) = false := rfl
theorem nop_call (f : Nat) (es : Es) : isNop (.call f es) = false := rfl
theorem nop_blt (b : Bt) (es : Es) : isNop (.blt b es) = false := rfl
def slF (x l : D) (M : Ms) : Rs D := match intO l with
  | some l => slD x l none M
  | none => none
def slT (x h : D) (M : Ms) : Rs D := match intO h with
  | some h => slD x none h M
  | none => none
def slB (x : D) (i : Int) (h : D) (M : Ms) : Rs D := match intO h with
  | some h => slD x (some i) h M
  | none => none
theorem partI_f {lo : E} (x : D) (h : isNop lo = false) : partI lo x = intO x := by unfold partI; rw [h]; rfl
theorem partI_nop (x : D) : partI .nop x = some none := rfl
/-- x[lo:], x[:hi], x[lo:hi] -/
theorem e_slF {a lo : E} (h : isNop lo = false) : ev call (.slc a lo .nop) ρ M = (ev call a ρ M).bind fun x M1 => (ev call lo ρ M1).bind fun l M2 => slF x l M2 := by
  rw [e_slc]
  congr 1
  funext x M1
  congr 1
  funext l M2
  simp only [partI_f _ h, partI_nop, e_nop, Rs.bind_ok]
  rfl
theorem e_slT {a hi : E} (h : isNop hi = false) : ev call (.slc a .nop hi) ρ M = (ev call a ρ M).bind fun x M1 => (ev call hi ρ M1).bind fun l M2 => slT x l M2 := by
  rw [e_slc]
  congr 1
  funext x M1
  simp only [partI_f _ h, partI_nop, e_nop, Rs.bind_ok]
  rfl
def slJ (call : Nat → List D → Ms → Rs D) (hi : E) (ρ : Rho) (x l : D) (M2 : Ms) : Rs D := match intO l with
    | some l => (ev call hi ρ M2).bind fun h M3 => match intO h with
      | some h => slD x l h M3
      | none => none
    | none => none
theorem e_slB {a lo hi : E} (h : isNop lo = false) (h2 : isNop hi = false) : ev call (.slc a lo hi) ρ M = (ev call a ρ M).bind fun x M1 => (ev call lo ρ M1).bind fun l M2 => slJ call hi ρ x l M2 := by
  rw [e_slc]
  simp only [partI_f _ h, partI_f _ h2]
  congr 1
theorem slF_i (x : D) (i : Int) (M : Ms) : slF x (.d (.int i)) M = slD x (some i) none M := rfl
theorem slT_i (x : D) (i : Int) (M : Ms) : slT x (.d (.int i)) M = slD x none (some i) M := rfl
theorem slB_i (x : D) (i j : Int) (M : Ms) : slB x i (.d (.int j)) M = slD x (some i) (some j) M := rfl
theorem wz_slF {a lo : E} {Q : Pst D} (h : isNop lo = false) : WP (ev call (.slc a lo .nop) ρ M) (Q := Q) = WP (ev call a ρ M) (Q := ⟨fun x M1 => WP (ev call lo ρ M1) (Q := ⟨fun l M2 => WP (slF x l M2) (Q := Q)⟩)⟩) := by
  rw [e_slF h, WP_bind]; simp +instances only [WP_bind]
theorem wz_slT {a hi : E} {Q : Pst D} (h : isNop hi = false) : WP (ev call (.slc a .nop hi) ρ M) (Q := Q) = WP (ev call a ρ M) (Q := ⟨fun x M1 => WP (ev call hi ρ M1) (Q := ⟨fun l M2 => WP (slT x l M2) (Q := Q)⟩)⟩) := by
  rw [e_slT h, WP_bind]; simp +instances only [WP_bind]
theorem wz_slB {a lo hi : E} {Q : Pst D} (h : isNop lo = false) (h2 : isNop hi = false) : WP (ev call (.slc a lo hi) ρ M) (Q := Q) = WP (ev call a ρ M) (Q := ⟨fun x M1 => WP (ev call lo ρ M1) (Q := ⟨fun l M2 => WP (slJ call hi ρ x l M2) (Q := Q)⟩)⟩) := by
  rw [e_slB h h2, WP_bind]; simp +instances only [WP_bind]
theorem wz_slJ {hi : E} {x : D} {i : Int} {Q : Pst D} : WP (slJ call hi ρ x (.d (.int i)) M) (Q := Q) = WP (ev call hi ρ M) (Q := ⟨fun h M3 => WP (slB x i h M3) (Q := Q)⟩) := by
  show WP ((ev call hi ρ M).bind fun h M3 => match intO h with
      | some h => slD x (some i) h M3
      | none => none) (Q := Q) = _
  rw [WP_bind]
  rfl
theorem slD_t (xs : List PyData) (l h : Option Int) (M : Ms) : slD (.d (.tuple xs)) l h M = Rs.ok (.d (.tuple (cutI xs l h))) M := rfl
theorem slD_l (xs : List PyData) (l h : Option Int) (M : Ms) : slD (.d (.list xs)) l h M = Rs.ok (.d (.list (cutI xs l h))) M := rfl
end
section
variable {call : Nat → List D → Ms → Rs D} {ρ : Rho} {M : Ms}
theorem wz_slF_int (x : E) (i1 : Int) {Q : Pst D} : WP (ev call (.slc x (.int i1) .nop) ρ M) (Q := Q) = WP (ev call x ρ M) (Q := ⟨fun x M1 => WP (ev call (.int i1) ρ M1) (Q := ⟨fun l M2 => WP (slF x l M2) (Q := Q)⟩)⟩) := wz_slF rfl
theorem wz_slT_int (x : E) (i1 : Int) {Q : Pst D} : WP (ev call (.slc x .nop (.int i1)) ρ M) (Q := Q) = WP (ev call x ρ M) (Q := ⟨fun x M1 => WP (ev call (.int i1) ρ M1) (Q := ⟨fun l M2 => WP (slT x l M2) (Q := Q)⟩)⟩) := wz_slT rfl
theorem wz_slB_int_int (x : E) (i1 : Int) (i2 : Int) {Q : Pst D} : WP (ev call (.slc x (.int i1) (.int i2)) ρ M) (Q := Q) = WP (ev call x ρ M) (Q := ⟨fun x M1 => WP (ev call (.int i1) ρ M1) (Q := ⟨fun l M2 => WP (slJ call (.int i2) ρ x l M2) (Q := Q)⟩)⟩) := wz_slB rfl rfl
theorem wz_slB_int_neg (x : E) (i1 : Int) (a2 : E) {Q : Pst D} : WP (ev call (.slc x (.int i1) (.neg a2)) ρ M) (Q := Q) = WP (ev call x ρ M) (Q := ⟨fun x M1 => WP (ev call (.int i1) ρ M1) (Q := ⟨fun l M2 => WP (slJ call (.neg a2) ρ x l M2) (Q := Q)⟩)⟩) := wz_slB rfl rfl
theorem wz_slB_int_var (x : E) (i1 : Int) (v2 : Nat) {Q : Pst D} : WP (ev call (.slc x (.int i1) (.var v2)) ρ M) (Q := Q) = WP (ev call x ρ M) (Q := ⟨fun x M1 => WP (ev call (.int i1) ρ M1) (Q := ⟨fun l M2 => WP (slJ call (.var v2) ρ x l M2) (Q := Q)⟩)⟩) := wz_slB rfl rfl
theorem wz_slB_int_bin (x : E) (i1 : Int) (o2 : Operator) (a2 b2 : E) {Q : Pst D} : WP (ev call (.slc x (.int i1) (.bin o2 a2 b2)) ρ M) (Q := Q) = WP (ev call x ρ M) (Q := ⟨fun x M1 => WP (ev call (.int i1) ρ M1) (Q := ⟨fun l M2 => WP (slJ call (.bin o2 a2 b2) ρ x l M2) (Q := Q)⟩)⟩) := wz_slB rfl rfl
theorem wz_slB_int_ix (x : E) (i1 : Int) (a2 b2 : E) {Q : Pst D} : WP (ev call (.slc x (.int i1) (.ix a2 b2)) ρ M) (Q := Q) = WP (ev call x ρ M) (Q := ⟨fun x M1 => WP (ev call (.int i1) ρ M1) (Q := ⟨fun l M2 => WP (slJ call (.ix a2 b2) ρ x l M2) (Q := Q)⟩)⟩) := wz_slB rfl rfl
theorem wz_slB_int_call (x : E) (i1 : Int) (f2 : Nat) (e2 : Es) {Q : Pst D} : WP (ev call (.slc x (.int i1) (.call f2 e2)) ρ M) (Q := Q) = WP (ev call x ρ M) (Q := ⟨fun x M1 => WP (ev call (.int i1) ρ M1) (Q := ⟨fun l M2 => WP (slJ call (.call f2 e2) ρ x l M2) (Q := Q)⟩)⟩) := wz_slB rfl rfl
theorem wz_slB_int_blt (x : E) (i1 : Int) (b2 : Bt) (e2 : Es) {Q : Pst D} : WP (ev call (.slc x (.int i1) (.blt b2 e2)) ρ M) (Q := Q) = WP (ev call x ρ M) (Q := ⟨fun x M1 => WP (ev call (.int i1) ρ M1) (Q := ⟨fun l M2 => WP (slJ call (.blt b2 e2) ρ x l M2) (Q := Q)⟩)⟩) := wz_slB rfl rfl
theorem wz_slF_neg (x : E) (a1 : E) {Q : Pst D} : WP (ev call (.slc x (.neg a1) .nop) ρ M) (Q := Q) = WP (ev call x ρ M) (Q := ⟨fun x M1 => WP (ev call (.neg a1) ρ M1) (Q := ⟨fun l M2 => WP (slF x l M2) (Q := Q)⟩)⟩) := wz_slF rfl
theorem wz_slT_neg (x : E) (a1 : E) {Q : Pst D} : WP (ev call (.slc x .nop (.neg a1)) ρ M) (Q := Q) = WP (ev call x ρ M) (Q := ⟨fun x M1 => WP (ev call (.neg a1) ρ M1) (Q := ⟨fun l M2 => WP (slT x l M2) (Q := Q)⟩)⟩) := wz_slT rfl
theorem wz_slB_neg_int (x : E) (a1 : E) (i2 : Int) {Q : Pst D} : WP (ev call (.slc x (.neg a1) (.int i2)) ρ M) (Q := Q) = WP (ev call x ρ M) (Q := ⟨fun x M1 => WP (ev call (.neg a1) ρ M1) (Q := ⟨fun l M2 => WP (slJ call (.int i2) ρ x l M2) (Q := Q)⟩)⟩) := wz_slB rfl rfl
theorem wz_slB_neg_neg (x : E) (a1 : E) (a2 : E) {Q : Pst D} : WP (ev call (.slc x (.neg a1) (.neg a2)) ρ M) (Q := Q) = WP (ev call x ρ M) (Q := ⟨fun x M1 => WP (ev call (.neg a1) ρ M1) (Q := ⟨fun l M2 => WP (slJ call (.neg a2) ρ x l M2) (Q := Q)⟩)⟩) := wz_slB rfl rfl
theorem wz_slB_neg_var (x : E) (a1 : E) (v2 : Nat) {Q : Pst D} : WP (ev call (.slc x (.neg a1) (.var v2)) ρ M) (Q := Q) = WP (ev call x ρ M) (Q := ⟨fun x M1 => WP (ev call (.neg a1) ρ M1) (Q := ⟨fun l M2 => WP (slJ call (.var v2) ρ x l M2) (Q := Q)⟩)⟩) := wz_slB rfl rfl
theorem wz_slB_neg_bin (x : E) (a1 : E) (o2 : Operator) (a2 b2 : E) {Q : Pst D} : WP (ev call (.slc x (.neg a1) (.bin o2 a2 b2)) ρ M) (Q := Q) = WP (ev call x ρ M) (Q := ⟨fun x M1 => WP (ev call (.neg a1) ρ M1) (Q := ⟨fun l M2 => WP (slJ call (.bin o2 a2 b2) ρ x l M2) (Q := Q)⟩)⟩) := wz_slB rfl rfl
theorem wz_slB_neg_ix (x : E) (a1 : E) (a2 b2 : E) {Q : Pst D} : WP (ev call (.slc x (.neg a1) (.ix a2 b2)) ρ M) (Q := Q) = WP (ev call x ρ M) (Q := ⟨fun x M1 => WP (ev call (.neg a1) ρ M1) (Q := ⟨fun l M2 => WP (slJ call (.ix a2 b2) ρ x l M2) (Q := Q)⟩)⟩) := wz_slB rfl rfl
theorem wz_slB_neg_call (x : E) (a1 : E) (f2 : Nat) (e2 : Es) {Q : Pst D} : WP (ev call (.slc x (.neg a1) (.call f2 e2)) ρ M) (Q := Q) = WP (ev call x ρ M) (Q := ⟨fun x M1 => WP (ev call (.neg a1) ρ M1) (Q := ⟨fun l M2 => WP (slJ call (.call f2 e2) ρ x l M2) (Q := Q)⟩)⟩) := wz_slB rfl rfl
theorem wz_slB_neg_blt (x : E) (a1 : E) (b2 : Bt) (e2 : Es) {Q : Pst D} : WP (ev call (.slc x (.neg a1) (.blt b2 e2)) ρ M) (Q := Q) = WP (ev call x ρ M) (Q := ⟨fun x M1 => WP (ev call (.neg a1) ρ M1) (Q := ⟨fun l M2 => WP (slJ call (.blt b2 e2) ρ x l M2) (Q := Q)⟩)⟩) := wz_slB rfl rfl
theorem wz_slF_var (x : E) (v1 : Nat) {Q : Pst D} : WP (ev call (.slc x (.var v1) .nop) ρ M) (Q := Q) = WP (ev call x ρ M) (Q := ⟨fun x M1 => WP (ev call (.var v1) ρ M1) (Q := ⟨fun l M2 => WP (slF x l M2) (Q := Q)⟩)⟩) := wz_slF rfl
theorem wz_slT_var (x : E) (v1 : Nat) {Q : Pst D} : WP (ev call (.slc x .nop (.var v1)) ρ M) (Q := Q) = WP (ev call x ρ M) (Q := ⟨fun x M1 => WP (ev call (.var v1) ρ M1) (Q := ⟨fun l M2 => WP (slT x l M2) (Q := Q)⟩)⟩) := wz_slT rfl
theorem wz_slB_var_int (x : E) (v1 : Nat) (i2 : Int) {Q : Pst D} : WP (ev call (.slc x (.var v1) (.int i2)) ρ M) (Q := Q) = WP (ev call x ρ M) (Q := ⟨fun x M1 => WP (ev call (.var v1) ρ M1) (Q := ⟨fun l M2 => WP (slJ call (.int i2) ρ x l M2) (Q := Q)⟩)⟩) := wz_slB rfl rfl
theorem wz_slB_var_neg (x : E) (v1 : Nat) (a2 : E) {Q : Pst D} : WP (ev call (.slc x (.var v1) (.neg a2)) ρ M) (Q := Q) = WP (ev call x ρ M) (Q := ⟨fun x M1 => WP (ev call (.var v1) ρ M1) (Q := ⟨fun l M2 => WP (slJ call (.neg a2) ρ x l M2) (Q := Q)⟩)⟩) := wz_slB rfl rfl
theorem wz_slB_var_var (x : E) (v1 : Nat) (v2 : Nat) {Q : Pst D} : WP (ev call (.slc x (.var v1) (.var v2)) ρ M) (Q := Q) = WP (ev call x ρ M) (Q := ⟨fun x M1 => WP (ev call (.var v1) ρ M1) (Q := ⟨fun l M2 => WP (slJ call (.var v2) ρ x l M2) (Q := Q)⟩)⟩) := wz_slB rfl rfl
theorem wz_slB_var_bin (x : E) (v1 : Nat) (o2 : Operator) (a2 b2 : E) {Q : Pst D} : WP (ev call (.slc x (.var v1) (.bin o2 a2 b2)) ρ M) (Q := Q) = WP (ev call x ρ M) (Q := ⟨fun x M1 => WP (ev call (.var v1) ρ M1) (Q := ⟨fun l M2 => WP (slJ call (.bin o2 a2 b2) ρ x l M2) (Q := Q)⟩)⟩) := wz_slB rfl rfl
theorem wz_slB_var_ix (x : E) (v1 : Nat) (a2 b2 : E) {Q : Pst D} : WP (ev call (.slc x (.var v1) (.ix a2 b2)) ρ M) (Q := Q) = WP (ev call x ρ M) (Q := ⟨fun x M1 => WP (ev call (.var v1) ρ M1) (Q := ⟨fun l M2 => WP (slJ call (.ix a2 b2) ρ x l M2) (Q := Q)⟩)⟩) := wz_slB rfl rfl
theorem wz_slB_var_call (x : E) (v1 : Nat) (f2 : Nat) (e2 : Es) {Q : Pst D} : WP (ev call (.slc x (.var v1) (.call f2 e2)) ρ M) (Q := Q) = WP (ev call x ρ M) (Q := ⟨fun x M1 => WP (ev call (.var v1) ρ M1) (Q := ⟨fun l M2 => WP (slJ call (.call f2 e2) ρ x l M2) (Q := Q)⟩)⟩) := wz_slB rfl rfl
theorem wz_slB_var_blt (x : E) (v1 : Nat) (b2 : Bt) (e2 : Es) {Q : Pst D} : WP (ev call (.slc x (.var v1) (.blt b2 e2)) ρ M) (Q := Q) = WP (ev call x ρ M) (Q := ⟨fun x M1 => WP (ev call (.var v1) ρ M1) (Q := ⟨fun l M2 => WP (slJ call (.blt b2 e2) ρ x l M2) (Q := Q)⟩)⟩) := wz_slB rfl rfl
theorem wz_slF_bin (x : E) (o1 : Operator) (a1 b1 : E) {Q : Pst D} : WP (ev call (.slc x (.bin o1 a1 b1) .nop) ρ M) (Q := Q) = WP (ev call x ρ M) (Q := ⟨fun x M1 => WP (ev call (.bin o1 a1 b1) ρ M1) (Q := ⟨fun l M2 => WP (slF x l M2) (Q := Q)⟩)⟩) := wz_slF rfl
theorem wz_slT_bin (x : E) (o1 : Operator) (a1 b1 : E) {Q : Pst D} : WP (ev call (.slc x .nop (.bin o1 a1 b1)) ρ M) (Q := Q) = WP (ev call x ρ M) (Q := ⟨fun x M1 => WP (ev call (.bin o1 a1 b1) ρ M1) (Q := ⟨fun l M2 => WP (slT x l M2) (Q := Q)⟩)⟩) := wz_slT rfl
theorem wz_slB_bin_int (x : E) (o1 : Operator) (a1 b1 : E) (i2 : Int) {Q : Pst D} : WP (ev call (.slc x (.bin o1 a1 b1) (.int i2)) ρ M) (Q := Q) = WP (ev call x ρ M) (Q := ⟨fun x M1 => WP (ev call (.bin o1 a1 b1) ρ M1) (Q := ⟨fun l M2 => WP (slJ call (.int i2) ρ x l M2) (Q := Q)⟩)⟩) := wz_slB rfl rfl
theorem wz_slB_bin_neg (x : E) (o1 : Operator) (a1 b1 : E) (a2 : E) {Q : Pst D} : WP (ev call (.slc x (.bin o1 a1 b1) (.neg a2)) ρ M) (Q := Q) = WP (ev call x ρ M) (Q := ⟨fun x M1 => WP (ev call (.bin o1 a1 b1) ρ M1) (Q := ⟨fun l M2 => WP (slJ call (.neg a2) ρ x l M2) (Q := Q)⟩)⟩) := wz_slB rfl rfl
theorem wz_slB_bin_var (x : E) (o1 : Operator) (a1 b1 : E) (v2 : Nat) {Q : Pst D} : WP (ev call (.slc x (.bin o1 a1 b1) (.var v2)) ρ M) (Q := Q) = WP (ev call x ρ M) (Q := ⟨fun x M1 => WP (ev call (.bin o1 a1 b1) ρ M1) (Q := ⟨fun l M2 => WP (slJ call (.var v2) ρ x l M2) (Q := Q)⟩)⟩) := wz_slB rfl rfl
theorem wz_slB_bin_bin (x : E) (o1 : Operator) (a1 b1 : E) (o2 : Operator) (a2 b2 : E) {Q : Pst D} : WP (ev call (.slc x (.bin o1 a1 b1) (.bin o2 a2 b2)) ρ M) (Q := Q) = WP (ev call x ρ M) (Q := ⟨fun x M1 => WP (ev call (.bin o1 a1 b1) ρ M1) (Q := ⟨fun l M2 => WP (slJ call (.bin o2 a2 b2) ρ x l M2) (Q := Q)⟩)⟩) := wz_slB rfl rfl
theorem wz_slB_bin_ix (x : E) (o1 : Operator) (a1 b1 : E) (a2 b2 : E) {Q : Pst D} : WP (ev call (.slc x (.bin o1 a1 b1) (.ix a2 b2)) ρ M) (Q := Q) = WP (ev call x ρ M) (Q := ⟨fun x M1 => WP (ev call (.bin o1 a1 b1) ρ M1) (Q := ⟨fun l M2 => WP (slJ call (.ix a2 b2) ρ x l M2) (Q := Q)⟩)⟩) := wz_slB rfl rfl
theorem wz_slB_bin_call (x : E) (o1 : Operator) (a1 b1 : E) (f2 : Nat) (e2 : Es) {Q : Pst D} : WP (ev call (.slc x (.bin o1 a1 b1) (.call f2 e2)) ρ M) (Q := Q) = WP (ev call x ρ M) (Q := ⟨fun x M1 => WP (ev call (.bin o1 a1 b1) ρ M1) (Q := ⟨fun l M2 => WP (slJ call (.call f2 e2) ρ x l M2) (Q := Q)⟩)⟩) := wz_slB rfl rfl
theorem wz_slB_bin_blt (x : E) (o1 : Operator) (a1 b1 : E) (b2 : Bt) (e2 : Es) {Q : Pst D} : WP (ev call (.slc x (.bin o1 a1 b1) (.blt b2 e2)) ρ M) (Q := Q) = WP (ev call x ρ M) (Q := ⟨fun x M1 => WP (ev call (.bin o1 a1 b1) ρ M1) (Q := ⟨fun l M2 => WP (slJ call (.blt b2 e2) ρ x l M2) (Q := Q)⟩)⟩) := wz_slB rfl rfl
theorem wz_slF_ix (x : E) (a1 b1 : E) {Q : Pst D} : WP (ev call (.slc x (.ix a1 b1) .nop) ρ M) (Q := Q) = WP (ev call x ρ M) (Q := ⟨fun x M1 => WP (ev call (.ix a1 b1) ρ M1) (Q := ⟨fun l M2 => WP (slF x l M2) (Q := Q)⟩)⟩) := wz_slF rfl
theorem wz_slT_ix (x : E) (a1 b1 : E) {Q : Pst D} : WP (ev call (.slc x .nop (.ix a1 b1)) ρ M) (Q := Q) = WP (ev call x ρ M) (Q := ⟨fun x M1 => WP (ev call (.ix a1 b1) ρ M1) (Q := ⟨fun l M2 => WP (slT x l M2) (Q := Q)⟩)⟩) := wz_slT rfl
theorem wz_slB_ix_int (x : E) (a1 b1 : E) (i2 : Int) {Q : Pst D} : WP (ev call (.slc x (.ix a1 b1) (.int i2)) ρ M) (Q := Q) = WP (ev call x ρ M) (Q := ⟨fun x M1 => WP (ev call (.ix a1 b1) ρ M1) (Q := ⟨fun l M2 => WP (slJ call (.int i2) ρ x l M2) (Q := Q)⟩)⟩) := wz_slB rfl rfl
theorem wz_slB_ix_neg (x : E) (a1 b1 : E) (a2 : E) {Q : Pst D} : WP (ev call (.slc x (.ix a1 b1) (.neg a2)) ρ M) (Q := Q) = WP (ev call x ρ M) (Q := ⟨fun x M1 => WP (ev call (.ix a1 b1) ρ M1) (Q := ⟨fun l M2 => WP (slJ call (.neg a2) ρ x l M2) (Q := Q)⟩)⟩) := wz_slB rfl rfl
theorem wz_slB_ix_var (x : E) (a1 b1 : E) (v2 : Nat) {Q : Pst D} : WP (ev call (.slc x (.ix a1 b1) (.var v2)) ρ M) (Q := Q) = WP (ev call x ρ M) (Q := ⟨fun x M1 => WP (ev call (.ix a1 b1) ρ M1) (Q := ⟨fun l M2 => WP (slJ call (.var v2) ρ x l M2) (Q := Q)⟩)⟩) := wz_slB rfl rfl
theorem wz_slB_ix_bin (x : E) (a1 b1 : E) (o2 : Operator) (a2 b2 : E) {Q : Pst D} : WP (ev call (.slc x (.ix a1 b1) (.bin o2 a2 b2)) ρ M) (Q := Q) = WP (ev call x ρ M) (Q := ⟨fun x M1 => WP (ev call (.ix a1 b1) ρ M1) (Q := ⟨fun l M2 => WP (slJ call (.bin o2 a2 b2) ρ x l M2) (Q := Q)⟩)⟩) := wz_slB rfl rfl
theorem wz_slB_ix_ix (x : E) (a1 b1 : E) (a2 b2 : E) {Q : Pst D} : WP (ev call (.slc x (.ix a1 b1) (.ix a2 b2)) ρ M) (Q := Q) = WP (ev call x ρ M) (Q := ⟨fun x M1 => WP (ev call (.ix a1 b1) ρ M1) (Q := ⟨fun l M2 => WP (slJ call (.ix a2 b2) ρ x l M2) (Q := Q)⟩)⟩) := wz_slB rfl rfl
theorem wz_slB_ix_call (x : E) (a1 b1 : E) (f2 : Nat) (e2 : Es) {Q : Pst D} : WP (ev call (.slc x (.ix a1 b1) (.call f2 e2)) ρ M) (Q := Q) = WP (ev call x ρ M) (Q := ⟨fun x M1 => WP (ev call (.ix a1 b1) ρ M1) (Q := ⟨fun l M2 => WP (slJ call (.call f2 e2) ρ x l M2) (Q := Q)⟩)⟩) := wz_slB rfl rfl
theorem wz_slB_ix_blt (x : E) (a1 b1 : E) (b2 : Bt) (e2 : Es) {Q : Pst D} : WP (ev call (.slc x (.ix a1 b1) (.blt b2 e2)) ρ M) (Q := Q) = WP (ev call x ρ M) (Q := ⟨fun x M1 => WP (ev call (.ix a1 b1) ρ M1) (Q := ⟨fun l M2 => WP (slJ call (.blt b2 e2) ρ x l M2) (Q := Q)⟩)⟩) := wz_slB rfl rfl
theorem wz_slF_call (x : E) (f1 : Nat) (e1 : Es) {Q : Pst D} : WP (ev call (.slc x (.call f1 e1) .nop) ρ M) (Q := Q) = WP (ev call x ρ M) (Q := ⟨fun x M1 => WP (ev call (.call f1 e1) ρ M1) (Q := ⟨fun l M2 => WP (slF x l M2) (Q := Q)⟩)⟩) := wz_slF rfl
theorem wz_slT_call (x : E) (f1 : Nat) (e1 : Es) {Q : Pst D} : WP (ev call (.slc x .nop (.call f1 e1)) ρ M) (Q := Q) = WP (ev call x ρ M) (Q := ⟨fun x M1 => WP (ev call (.call f1 e1) ρ M1) (Q := ⟨fun l M2 => WP (slT x l M2) (Q := Q)⟩)⟩) := wz_slT rfl
theorem wz_slB_call_int (x : E) (f1 : Nat) (e1 : Es) (i2 : Int) {Q : Pst D} : WP (ev call (.slc x (.call f1 e1) (.int i2)) ρ M) (Q := Q) = WP (ev call x ρ M) (Q := ⟨fun x M1 => WP (ev call (.call f1 e1) ρ M1) (Q := ⟨fun l M2 => WP (slJ call (.int i2) ρ x l M2) (Q := Q)⟩)⟩) := wz_slB rfl rfl
theorem wz_slB_call_neg (x : E) (f1 : Nat) (e1 : Es) (a2 : E) {Q : Pst D} : WP (ev call (.slc x (.call f1 e1) (.neg a2)) ρ M) (Q := Q) = WP (ev call x ρ M) (Q := ⟨fun x M1 => WP (ev call (.call f1 e1) ρ M1) (Q := ⟨fun l M2 => WP (slJ call (.neg a2) ρ x l M2) (Q := Q)⟩)⟩) := wz_slB rfl rfl
theorem wz_slB_call_var (x : E) (f1 : Nat) (e1 : Es) (v2 : Nat) {Q : Pst D} : WP (ev call (.slc x (.call f1 e1) (.var v2)) ρ M) (Q := Q) = WP (ev call x ρ M) (Q := ⟨fun x M1 => WP (ev call (.call f1 e1) ρ M1) (Q := ⟨fun l M2 => WP (slJ call (.var v2) ρ x l M2) (Q := Q)⟩)⟩) := wz_slB rfl rfl
theorem wz_slB_call_bin (x : E) (f1 : Nat) (e1 : Es) (o2 : Operator) (a2 b2 : E) {Q : Pst D} : WP (ev call (.slc x (.call f1 e1) (.bin o2 a2 b2)) ρ M) (Q := Q) = WP (ev call x ρ M) (Q := ⟨fun x M1 => WP (ev call (.call f1 e1) ρ M1) (Q := ⟨fun l M2 => WP (slJ call (.bin o2 a2 b2) ρ x l M2) (Q := Q)⟩)⟩) := wz_slB rfl rfl
theorem wz_slB_call_ix (x : E) (f1 : Nat) (e1 : Es) (a2 b2 : E) {Q : Pst D} : WP (ev call (.slc x (.call f1 e1) (.ix a2 b2)) ρ M) (Q := Q) = WP (ev call x ρ M) (Q := ⟨fun x M1 => WP (ev call (.call f1 e1) ρ M1) (Q := ⟨fun l M2 => WP (slJ call (.ix a2 b2) ρ x l M2) (Q := Q)⟩)⟩) := wz_slB rfl rfl
theorem wz_slB_call_call (x : E) (f1 : Nat) (e1 : Es) (f2 : Nat) (e2 : Es) {Q : Pst D} : WP (ev call (.slc x (.call f1 e1) (.call f2 e2)) ρ M) (Q := Q) = WP (ev call x ρ M) (Q := ⟨fun x M1 => WP (ev call (.call f1 e1) ρ M1) (Q := ⟨fun l M2 => WP (slJ call (.call f2 e2) ρ x l M2) (Q := Q)⟩)⟩) := wz_slB rfl rfl
theorem wz_slB_call_blt (x : E) (f1 : Nat) (e1 : Es) (b2 : Bt) (e2 : Es) {Q : Pst D} : WP (ev call (.slc x (.call f1 e1) (.blt b2 e2)) ρ M) (Q := Q) = WP (ev call x ρ M) (Q := ⟨fun x M1 => WP (ev call (.call f1 e1) ρ M1) (Q := ⟨fun l M2 => WP (slJ call (.blt b2 e2) ρ x l M2) (Q := Q)⟩)⟩) := wz_slB rfl rfl
theorem wz_slF_blt (x : E) (b1 : Bt) (e1 : Es) {Q : Pst D} : WP (ev call (.slc x (.blt b1 e1) .nop) ρ M) (Q := Q) = WP (ev call x ρ M) (Q := ⟨fun x M1 => WP (ev call (.blt b1 e1) ρ M1) (Q := ⟨fun l M2 => WP (slF x l M2) (Q := Q)⟩)⟩) := wz_slF rfl
theorem wz_slT_blt (x : E) (b1 : Bt) (e1 : Es) {Q : Pst D} : WP (ev call (.slc x .nop (.blt b1 e1)) ρ M) (Q := Q) = WP (ev call x ρ M) (Q := ⟨fun x M1 => WP (ev call (.blt b1 e1) ρ M1) (Q := ⟨fun l M2 => WP (slT x l M2) (Q := Q)⟩)⟩) := wz_slT rfl
theorem wz_slB_blt_int (x : E) (b1 : Bt) (e1 : Es) (i2 : Int) {Q : Pst D} : WP (ev call (.slc x (.blt b1 e1) (.int i2)) ρ M) (Q := Q) = WP (ev call x ρ M) (Q := ⟨fun x M1 => WP (ev call (.blt b1 e1) ρ M1) (Q := ⟨fun l M2 => WP (slJ call (.int i2) ρ x l M2) (Q := Q)⟩)⟩) := wz_slB rfl rfl
theorem wz_slB_blt_neg (x : E) (b1 : Bt) (e1 : Es) (a2 : E) {Q : Pst D} : WP (ev call (.slc x (.blt b1 e1) (.neg a2)) ρ M) (Q := Q) = WP (ev call x ρ M) (Q := ⟨fun x M1 => WP (ev call (.blt b1 e1) ρ M1) (Q := ⟨fun l M2 => WP (slJ call (.neg a2) ρ x l M2) (Q := Q)⟩)⟩) := wz_slB rfl rfl
theorem wz_slB_blt_var (x : E) (b1 : Bt) (e1 : Es) (v2 : Nat) {Q : Pst D} : WP (ev call (.slc x (.blt b1 e1) (.var v2)) ρ M) (Q := Q) = WP (ev call x ρ M) (Q := ⟨fun x M1 => WP (ev call (.blt b1 e1) ρ M1) (Q := ⟨fun l M2 => WP (slJ call (.var v2) ρ x l M2) (Q := Q)⟩)⟩) := wz_slB rfl rfl
theorem wz_slB_blt_bin (x : E) (b1 : Bt) (e1 : Es) (o2 : Operator) (a2 b2 : E) {Q : Pst D} : WP (ev call (.slc x (.blt b1 e1) (.bin o2 a2 b2)) ρ M) (Q := Q) = WP (ev call x ρ M) (Q := ⟨fun x M1 => WP (ev call (.blt b1 e1) ρ M1) (Q := ⟨fun l M2 => WP (slJ call (.bin o2 a2 b2) ρ x l M2) (Q := Q)⟩)⟩) := wz_slB rfl rfl
theorem wz_slB_blt_ix (x : E) (b1 : Bt) (e1 : Es) (a2 b2 : E) {Q : Pst D} : WP (ev call (.slc x (.blt b1 e1) (.ix a2 b2)) ρ M) (Q := Q) = WP (ev call x ρ M) (Q := ⟨fun x M1 => WP (ev call (.blt b1 e1) ρ M1) (Q := ⟨fun l M2 => WP (slJ call (.ix a2 b2) ρ x l M2) (Q := Q)⟩)⟩) := wz_slB rfl rfl
theorem wz_slB_blt_call (x : E) (b1 : Bt) (e1 : Es) (f2 : Nat) (e2 : Es) {Q : Pst D} : WP (ev call (.slc x (.blt b1 e1) (.call f2 e2)) ρ M) (Q := Q) = WP (ev call x ρ M) (Q := ⟨fun x M1 => WP (ev call (.blt b1 e1) ρ M1) (Q := ⟨fun l M2 => WP (slJ call (.call f2 e2) ρ x l M2) (Q := Q)⟩)⟩) := wz_slB rfl rfl
theorem wz_slB_blt_blt (x : E) (b1 : Bt) (e1 : Es) (b2 : Bt) (e2 : Es) {Q : Pst D} : WP (ev call (.slc x (.blt b1 e1) (.blt b2 e2)) ρ M) (Q := Q) = WP (ev call x ρ M) (Q := ⟨fun x M1 => WP (ev call (.blt b1 e1) ρ M1) (Q := ⟨fun l M2 => WP (slJ call (.blt b2 e2) ρ x l M2) (Q := Q)⟩)⟩) := wz_slB rfl rfl
end
theorem cut_last (xs : List PyData) : cutI xs (some (-1)) none = xs.drop (xs.length - 1) := by
  unfold cutI
  rw [HT.sIx_none]
  have e : HT.sIx xs.length 0 (some (-1)) = xs.length - 1 := by
    show (if (-1 : Int) < 0 then ((-1 : Int) + (xs.length : Int)).toNat else min (-1 : Int).toNat xs.length) = _
    rw [if_pos (by decide)]
    omega
  rw [e]
  apply List.take_of_length_le
  simp
theorem cut_tail (x : PyData) (xs : List PyData) : cutI (x :: xs) (some 1) none = xs := by
  rw [show (1 : Int) = ((1 : Nat) : Int) from rfl, cut_from]
  rfl
theorem cut_fromZ (xs : List PyData) {i : Int} (h : 0 ≤ i) : cutI xs (some i) none = xs.drop i.toNat := by
  obtain ⟨k, rfl⟩ : ∃ k : Nat, i = (k : Nat) := ⟨i.toNat, by omega⟩
  rw [cut_from]
  simp
theorem cut_toZ (xs : List PyData) {i : Int} (h : 0 ≤ i) : cutI xs none (some i) = xs.take i.toNat := by
  obtain ⟨k, rfl⟩ : ∃ k : Nat, i = (k : Nat) := ⟨i.toNat, by omega⟩
  unfold cutI
  rw [HT.sIx_nat, HT.sIx_none, List.drop_zero, Nat.sub_zero, Int.toNat_natCast]
  by_cases h : k ≤ xs.length
  · rw [Nat.min_eq_left h]
  · rw [Nat.min_eq_right (by omega), List.take_of_length_le (Nat.le_refl _), List.take_of_length_le (by omega)]
/-! typed data -/
section
open PySem.W
variable {α : Type} [DecidableEq α] [DatumOrd α]
theorem likes_map {xs : List α} (h : Datum.depth α ≤ 60) : likes (xs.map Datum.toD) = true := by
  unfold likes
  rw [Bool.and_eq_true, Bool.and_eq_true]
  refine ⟨⟨?_, ?_⟩, decide_eq_true (Nat.le_trans (depthAll_map xs) h)⟩
  · rw [List.all_eq_true]
    intro x hx
    rw [List.all_eq_true]
    intro y hy
    obtain ⟨a, _, rfl⟩ := List.mem_map.mp hx
    obtain ⟨b, _, rfl⟩ := List.mem_map.mp hy
    exact DatumOrd.alike a b
  · rw [List.all_eq_true]
    intro x hx
    obtain ⟨a, _, rfl⟩ := List.mem_map.mp hx
    have := DatumOrd.notNone a
    cases e : (Datum.toD a : PyData) with
    | none => exact absurd e this
    | _ => rfl
theorem b_min (a : α) (l : List α) (M : Ms) (h : Datum.depth α ≤ 60) : callOp .min [.d (.list ((a :: l).map Datum.toD))] M = some (Datum.toD (minOf a l)) := by
  have h1 := likes_map (xs := a :: l) h
  show bltn .min [.list ((a :: l).map Datum.toD)] = _
  rw [List.map_cons] at h1 ⊢
  simp only [bltn, h1, if_true]
  rw [minD_map]
theorem b_max (a : α) (l : List α) (M : Ms) (h : Datum.depth α ≤ 60) : callOp .max [.d (.list ((a :: l).map Datum.toD))] M = some (Datum.toD (maxOf a l)) := by
  have h1 := likes_map (xs := a :: l) h
  show bltn .max [.list ((a :: l).map Datum.toD)] = _
  rw [List.map_cons] at h1 ⊢
  simp only [bltn, h1, if_true]
  rw [maxD_map]
theorem minOf_mem (a : α) : ∀ l : List α, minOf a l ∈ a :: l := fun l => by
  unfold minOf
  induction l generalizing a with
  | nil => simp
  | cons b l ih =>
    rw [List.foldl_cons]
    have := ih (if DatumOrd.lt b a = true then b else a)
    split at this
    · rename_i h
      rw [if_pos h]
      exact List.mem_cons_of_mem _ this
    · rename_i h
      rw [if_neg h]
      rcases List.mem_cons.mp this with e | e
      · rw [e]; simp
      · exact List.mem_cons_of_mem _ (List.mem_cons_of_mem _ e)
end
/-! told items one by one -/
theorem wz_lcn {body : D → Ms → Rs (Option PyData)} {M : Ms} {Q : Pst (List PyData)} : WP (lcLoop body [] M) (Q := Q) = Q.q [] M := by rw [lcLoop, WP_ok]
theorem wz_lcc {body : D → Ms → Rs (Option PyData)} {x : D} {xs : List D} {M : Ms} {Q : Pst (List PyData)} : WP (lcLoop body (x :: xs) M) (Q := Q) = WP (body x M) (Q := ⟨fun o M1 => WP (lcLoop body xs M1) (Q := ⟨fun r M2 => Q.q (consO o r) M2⟩)⟩) := by
  rw [lcLoop, WP_bind]; simp +instances only [WP_bind, WP_ok]
theorem consO_s (y : PyData) (r : List PyData) : consO (some y) r = y :: r := rfl
theorem consO_n (r : List PyData) : consO none r = r := rfl
def forK (body : D → Rho → Ms → Rs (Fl × Rho)) (xs : List D) (f : Fl × Rho) (M1 : Ms) : Rs (Fl × Rho) := match f with
    | (.nx, ρ1) => forLoop body xs ρ1 M1
    | (.ct, ρ1) => forLoop body xs ρ1 M1
    | (.bk, ρ1) => Rs.ok (.nx, ρ1) M1
    | (.rt d, ρ1) => Rs.ok (.rt d, ρ1) M1
theorem wz_forn {body : D → Rho → Ms → Rs (Fl × Rho)} {ρ : Rho} {M : Ms} {Q : Pst (Fl × Rho)} : WP (forLoop body [] ρ M) (Q := Q) = Q.q (.nx, ρ) M := by rw [forLoop, WP_ok]
theorem wz_forc {body : D → Rho → Ms → Rs (Fl × Rho)} {x : D} {xs : List D} {ρ : Rho} {M : Ms} {Q : Pst (Fl × Rho)} : WP (forLoop body (x :: xs) ρ M) (Q := Q) = WP (body x ρ M) (Q := ⟨fun f M1 => WP (forK body xs f M1) (Q := Q)⟩) := by
  rw [forLoop, WP_bind]; rfl
section
variable {body : D → Rho → Ms → Rs (Fl × Rho)} {xs : List D} {ρ : Rho} {M : Ms}
theorem forK_nx : forK body xs (.nx, ρ) M = forLoop body xs ρ M := rfl
theorem forK_ct : forK body xs (.ct, ρ) M = forLoop body xs ρ M := rfl
theorem forK_bk : forK body xs (.bk, ρ) M = Rs.ok (.nx, ρ) M := rfl
theorem forK_rt (d : D) : forK body xs (.rt d, ρ) M = Rs.ok (.rt d, ρ) M := rfl
end
def isNone : PyData → Bool
  | .none => true
  | _ => false
section
variable (M : Ms)
theorem c_isN (x : PyData) : cmpD .Is (.d x) (.d .none) M = Rs.ok (.d (.bool (isNone x))) M := by cases x <;> rfl
theorem c_isnN (x : PyData) : cmpD .IsNot (.d x) (.d .none) M = Rs.ok (.d (.bool (!isNone x))) M := by cases x <;> rfl
theorem c_isT (b : Bool) : cmpD .Is (.d (.bool b)) (.d (.bool true)) M = Rs.ok (.d (.bool b)) M := by cases b <;> rfl
theorem c_isF (b : Bool) : cmpD .Is (.d (.bool b)) (.d (.bool false)) M = Rs.ok (.d (.bool (!b))) M := by cases b <;> rfl
theorem c_isnT (b : Bool) : cmpD .IsNot (.d (.bool b)) (.d (.bool true)) M = Rs.ok (.d (.bool (!b))) M := by cases b <;> rfl
theorem c_isnF (b : Bool) : cmpD .IsNot (.d (.bool b)) (.d (.bool false)) M = Rs.ok (.d (.bool b)) M := by cases b <;> rfl
theorem isNone_n : isNone .none = true := rfl
theorem isNone_t (xs : List PyData) : isNone (.tuple xs) = false := rfl
theorem isNone_l (xs : List PyData) : isNone (.list xs) = false := rfl
theorem isNone_i (i : Int) : isNone (.int i) = false := rfl
theorem isNone_b (i : Bool) : isNone (.bool i) = false := rfl
theorem c_nel0 : cmpD .NotEq (.d (.list [])) (.d (.list [])) M = Rs.ok (.d (.bool false)) M := rfl
theorem c_eql0 : cmpD .Eq (.d (.list [])) (.d (.list [])) M = Rs.ok (.d (.bool true)) M := rfl
end
/-- a if b else c, as one value -/
theorem WPB.join {call : Nat → List D → Ms → Rs D} {ρ : Rho} {M : Ms} {a a' : E} {x y : D} {b : Bool} {Q : Pst D} (h1 : ev call a ρ M = Rs.ok x M) (h2 : ev call a' ρ M = Rs.ok y M) (q : Q.q (if b = true then x else y) M) :
    WPB (.d (.bool b)) (P := ⟨WP (ev call a ρ M) (Q := Q)⟩) (P' := ⟨WP (ev call a' ρ M) (Q := Q)⟩) := by
  cases b
  · exact WP.eq h2 q
  · exact WP.eq h1 q
/-- a and b, a or b, as one value -/
theorem WPB.and {call : Nat → List D → Ms → Rs D} {ρ : Rho} {M : Ms} {a : E} {x y : Bool} {Q : Pst D} (h1 : x = true → ev call a ρ M = Rs.ok (.d (.bool y)) M) (q : Q.q (.d (.bool (x && y))) M) :
    WPB (.d (.bool x)) (P := ⟨WP (ev call a ρ M) (Q := Q)⟩) (P' := ⟨Q.q (.d (.bool false)) M⟩) := by
  cases x
  · exact q
  · exact WP.eq (h1 rfl) q
theorem WPB.or {call : Nat → List D → Ms → Rs D} {ρ : Rho} {M : Ms} {a : E} {x y : Bool} {Q : Pst D} (h1 : x = false → ev call a ρ M = Rs.ok (.d (.bool y)) M) (q : Q.q (.d (.bool (x || y))) M) :
    WPB (.d (.bool x)) (P := ⟨Q.q (.d (.bool true)) M⟩) (P' := ⟨WP (ev call a ρ M) (Q := Q)⟩) := by
  cases x
  · exact WP.eq (h1 rfl) q
  · exact q
/-! new dicts from pairs -/
section
variable {call : Nat → List D → Ms → Rs D} {ρ : Rho} {M : Ms} {Q : Pst D}
def layP (x : D) (M : Ms) : Rs D := match layM .p x M with
  | some (y, M2) => Rs.ok y M2
  | none => none
theorem wz_mp (e : E) : WP (evM call .p e ρ M) (Q := Q) = WP (ev call e ρ M) (Q := ⟨fun x M1 => WP (layP x M1) (Q := Q)⟩) := by
  unfold evM
  rw [WP_bind]
  rfl
theorem layP_l (xs : List PyData) (M : Ms) : layP (.d (.list xs)) M = match pairsK xs with
  | some ks => Rs.ok (.own M.length) (M ++ [.dK (merges [] ks)])
  | none => none := by
  unfold layP
  rw [show layM .p (.d (.list xs)) M = (pairsK xs).map fun ks => (D.own M.length, M ++ [.dK (merges [] ks)]) from rfl]
  cases pairsK xs <;> rfl
theorem wz_ms (a b : E) : WP (evM call .s (.tup (.cons a (.cons b .nil))) ρ M) (Q := Q) = WP (ev call a ρ M) (Q := ⟨fun x M1 => WP (ev call b ρ M1) (Q := ⟨fun y M2 => WP (rsO (layS x y M2)) (Q := Q)⟩)⟩) := by
  rw [evM_s]
  simp +instances only [WP_bind]
theorem layS_i (i : Int) (v : PyData) (M : Ms) : rsO (layS (.d (.int i)) (.d v) M) = Rs.ok (.own M.length) (M ++ [.dK [(.inl i, v)]]) := rfl
end
/-! plain values -/
theorem plAll_map {α : Type} {g : α → PyData} {l : List α} (h : ∀ a ∈ l, pl (g a) = true) : plAll (l.map g) = true := by
  induction l with
  | nil => rw [List.map_nil, plAll]
  | cons a l ih => rw [List.map_cons, plAll, h a (by simp), ih fun b hb => h b (by simp [hb])]; rfl
theorem pl_map {α : Type} {g : α → PyData} {l : List α} (hl : l.length ≤ 16777216) (h : ∀ a ∈ l, pl (g a) = true) : pl (.tuple (l.map g)) = true := by
  rw [pl, plAll_map h, Bool.and_true, List.length_map]
  exact decide_eq_true hl
theorem pl_ints {l : List Int} (hl : l.length ≤ 16777216) : pl (.tuple (l.map .int)) = true := pl_map hl fun a _ => by rw [pl]
theorem depthAll_le {α : Type} {g : α → PyData} {l : List α} {k : Nat} (h : ∀ a ∈ l, (g a).depth ≤ k) : PyData.depthAll (l.map g) ≤ k := by
  induction l with
  | nil => rw [List.map_nil, PyData.depthAll]; omega
  | cons a l ih =>
    rw [List.map_cons, PyData.depthAll]
    exact Nat.max_le.mpr ⟨h a (by simp), ih fun b hb => h b (by simp [hb])⟩
theorem depth_map {α : Type} {g : α → PyData} {l : List α} {k : Nat} (h : ∀ a ∈ l, (g a).depth ≤ k) : (PyData.tuple (l.map g)).depth ≤ k + 1 := by
  have := depthAll_le h
  rw [PyData.depth]
  omega
theorem depth_ints (l : List Int) : (PyData.tuple (l.map .int)).depth ≤ 1 := depth_map (k := 0) fun a _ => by rw [PyData.depth]; omega
theorem line_leq {n : Nat} (h : n ≤ 16777216) : line n = true := decide_eq_true h
theorem flt_le {p : Int → Bool} (a b : Int) (h : (b - a).toNat ≤ 16777216) : ((irange a b).filter p).length ≤ 16777216 := by
  have := List.length_filter_le p (irange a b)
  rw [irange_len] at this
  omega
theorem d1 {x : PyData} {k : Nat} {xs : List PyData} (h : x.depth ≤ k) (h2 : PyData.depthAll xs ≤ k) : PyData.depthAll (x :: xs) ≤ k := by
  rw [PyData.depthAll]
  exact Nat.max_le.mpr ⟨h, h2⟩
theorem d0 (k : Nat) : PyData.depthAll [] ≤ k := by rw [PyData.depthAll]; omega
theorem dT {xs : List PyData} {k : Nat} (h : PyData.depthAll xs ≤ k) : (PyData.tuple xs).depth ≤ k + 1 := by rw [PyData.depth]; omega
theorem dI (i : Int) (k : Nat) : (PyData.int i).depth ≤ k := by rw [PyData.depth]; omega
theorem dB (i : Bool) (k : Nat) : (PyData.bool i).depth ≤ k := by rw [PyData.depth]; omega
theorem dN (k : Nat) : PyData.none.depth ≤ k := by rw [PyData.depth]; omega
theorem dL (l : List Int) (k : Nat) : (PyData.tuple (l.map .int)).depth ≤ k + 1 := Nat.le_trans (depth_ints l) (by omega)
theorem plT {xs : List PyData} (h : xs.length ≤ 16777216) (h2 : plAll xs = true) : pl (.tuple xs) = true := by rw [pl, h2, line_leq h]; rfl
theorem pl1 {x : PyData} {xs : List PyData} (h : pl x = true) (h2 : plAll xs = true) : plAll (x :: xs) = true := by rw [plAll, h, h2]; rfl
theorem pl0 : plAll [] = true := by rw [plAll]
theorem plI (i : Int) : pl (.int i) = true := by rw [pl]
theorem plB (i : Bool) : pl (.bool i) = true := by rw [pl]
theorem plN : pl .none = true := by rw [pl]
/-! a comprehension of two loops -/
section
variable {call : Nat → List D → Ms → Rs D} {ρ : Rho} {M : Ms}
def lc2M (call : Nat → List D → Ms → Rs D) (elt : E) (tg : Tg) (cond : E) (vs : List Nat) (tg1 : Tg) (it1 cond1 : E) (vs1 : List Nat) (ρ : Rho) (w : D) (M1 : Ms) : Rs D := match itemsOf w with
  | some xs => (lcLoopL (lc2Body call elt tg cond vs tg1 it1 cond1 vs1 ρ) xs M1).bind fun ys M6 => if line ys.length = true then Rs.ok (.d (.list ys)) M6 else none
  | none => none
theorem e_lc2 (elt : E) (tg : Tg) (it cond : E) (vs : List Nat) (tg1 : Tg) (it1 cond1 : E) (vs1 : List Nat) : ev call (.lc2 elt tg it cond vs tg1 it1 cond1 vs1) ρ M = (ev call it ρ M).bind (lc2M call elt tg cond vs tg1 it1 cond1 vs1 ρ) := by rw [ev]; rfl
theorem lc2M_its (elt : E) (tg : Tg) (cond : E) (vs : List Nat) (tg1 : Tg) (it1 cond1 : E) (vs1 : List Nat) (xs : List D) : lc2M call elt tg cond vs tg1 it1 cond1 vs1 ρ (.its xs) M = (lcLoopL (lc2Body call elt tg cond vs tg1 it1 cond1 vs1 ρ) xs M).bind fun ys M6 => if line ys.length = true then Rs.ok (.d (.list ys)) M6 else none := rfl
theorem lc2M_l (elt : E) (tg : Tg) (cond : E) (vs : List Nat) (tg1 : Tg) (it1 cond1 : E) (vs1 : List Nat) (xs : List PyData) : lc2M call elt tg cond vs tg1 it1 cond1 vs1 ρ (.d (.list xs)) M = (lcLoopL (lc2Body call elt tg cond vs tg1 it1 cond1 vs1 ρ) (xs.map .d) M).bind fun ys M6 => if line ys.length = true then Rs.ok (.d (.list ys)) M6 else none := rfl
theorem lc2M_t (elt : E) (tg : Tg) (cond : E) (vs : List Nat) (tg1 : Tg) (it1 cond1 : E) (vs1 : List Nat) (xs : List PyData) : lc2M call elt tg cond vs tg1 it1 cond1 vs1 ρ (.d (.tuple xs)) M = (lcLoopL (lc2Body call elt tg cond vs tg1 it1 cond1 vs1 ρ) (xs.map .d) M).bind fun ys M6 => if line ys.length = true then Rs.ok (.d (.list ys)) M6 else none := rfl
def innL (call : Nat → List D → Ms → Rs D) (elt : E) (tg1 : Tg) (cond1 : E) (vs1 : List Nat) (ρ : Rho) (w : D) (M : Ms) : Rs (List PyData) := match itemsOf w with
  | some xs1 => lcLoop (lcBody call elt tg1 cond1 vs1 ρ) xs1 M
  | none => none
theorem innL_its (elt : E) (tg : Tg) (cond : E) (vs : List Nat) (xs : List D) : innL call elt tg cond vs ρ (.its xs) M = lcLoop (lcBody call elt tg cond vs ρ) xs M := rfl
theorem innL_l (elt : E) (tg : Tg) (cond : E) (vs : List Nat) (xs : List PyData) : innL call elt tg cond vs ρ (.d (.list xs)) M = lcLoop (lcBody call elt tg cond vs ρ) (xs.map .d) M := rfl
theorem innL_t (elt : E) (tg : Tg) (cond : E) (vs : List Nat) (xs : List PyData) : innL call elt tg cond vs ρ (.d (.tuple xs)) M = lcLoop (lcBody call elt tg cond vs ρ) (xs.map .d) M := rfl
theorem wz_lc2b {elt : E} {tg : Tg} {cond : E} {vs : List Nat} {tg1 : Tg} {it1 cond1 : E} {vs1 : List Nat} {x : D} {Q : Pst (List PyData)} : WP (lc2Body call elt tg cond vs tg1 it1 cond1 vs1 ρ x M) (Q := Q) =
    WPO (bindTg tg x (wipeR ρ vs)) (Q := ⟨fun ρ' => WP (ev call cond ρ' M) (Q := ⟨fun c M3 => WPB c (P := ⟨WP (ev call it1 ρ' M3) (Q := ⟨fun w M4 => WP (innL call elt tg1 cond1 vs1 ρ' w M4) (Q := Q)⟩)⟩) (P' := ⟨Q.q [] M3⟩)⟩)⟩) := by
  have e : lc2Body call elt tg cond vs tg1 it1 cond1 vs1 ρ x M = (Rs.of (bindTg tg x (wipeR ρ vs)) M).bind fun ρ' M => ((ev call cond ρ' M).bind fun c M3 => br c ((ev call it1 ρ' M3).bind (innL call elt tg1 cond1 vs1 ρ')) (Rs.ok [] M3)).quiet := by
    unfold lc2Body
    cases bindTg tg x (wipeR ρ vs) <;> rfl
  rw [e]
  simp +instances only [WP_bind, WP_quiet, WP_br, WP_ok, WP_of]
theorem wz_lc2 {elt : E} {tg : Tg} {it cond : E} {vs : List Nat} {tg1 : Tg} {it1 cond1 : E} {vs1 : List Nat} {Q : Pst D} : WP (ev call (.lc2 elt tg it cond vs tg1 it1 cond1 vs1) ρ M) (Q := Q) = WP (ev call it ρ M) (Q := ⟨fun w M1 => WP (lc2M call elt tg cond vs tg1 it1 cond1 vs1 ρ w M1) (Q := Q)⟩) := by
  rw [e_lc2, WP_bind]
theorem WP.lc2 {α : Type} {body : D → Ms → Rs (List PyData)} {f : α → D} {l : List α} {Q : Pst (List PyData)} (g : α → List PyData)
    (h : ∀ a ∈ l, WP (body (f a) M) (Q := ⟨fun o M' => o = g a ∧ M' = M⟩)) (q : Q.q (l.flatMap g) M) : WP (lcLoopL body (l.map f) M) (Q := Q) := by
  have e : lcLoopL body (l.map f) M = Rs.ok (l.flatMap g) M := by
    clear q
    induction l with
    | nil => rw [List.map_nil, lcLoopL]; rfl
    | cons a l ih => rw [List.map_cons, lcLoopL, (h a (by simp)).to_eq, Rs.bind_ok, ih (fun b hb => h b (by simp [hb])), Rs.bind_ok, List.flatMap_cons]
  exact WP.eq e q
theorem WP_line {ys : List PyData} {Q : Pst D} (h : ys.length ≤ 16777216) (q : Q.q (.d (.list ys)) M) : WP (if line ys.length = true then Rs.ok (.d (.list ys)) M else none) (Q := Q) := by
  have h : line ys.length = true := decide_eq_true h
  rw [if_pos h, WP_ok]
  exact q
end
end Ob

set_option Elab.async false
set_option linter.all false
set_option maxRecDepth 100000
set_option maxHeartbeats 4000000
/-! orders, least items -/
namespace Ob
open PySem PySem.W
class OrdOk (α : Type) [DecidableEq α] [DatumOrd α] : Prop where
  irr : ∀ a : α, DatumOrd.lt a a = false
  tr : ∀ a b c : α, DatumOrd.lt a b = true → DatumOrd.lt b c = true → DatumOrd.lt a c = true
  tot : ∀ a b : α, DatumOrd.lt a b = false → DatumOrd.lt b a = false → a = b
theorem lt_int (a b : Int) : DatumOrd.lt a b = decide (a < b) := rfl
instance : OrdOk Int where
  irr a := by rw [lt_int]; simp
  tr a b c h1 h2 := by rw [lt_int] at *; simp at *; omega
  tot a b h1 h2 := by rw [lt_int] at *; simp at *; omega
theorem lt_bool (a b : Bool) : DatumOrd.lt a b = (!a && b) := rfl
instance : OrdOk Bool where
  irr a := by cases a <;> rfl
  tr a b c h1 h2 := by revert h1 h2; cases a <;> cases b <;> cases c <;> decide
  tot a b h1 h2 := by revert h1 h2; cases a <;> cases b <;> decide
section
variable {α β : Type} [DecidableEq α] [DatumOrd α] [OrdOk α] [DecidableEq β] [DatumOrd β] [OrdOk β]
theorem lt_asym {a b : α} (h : DatumOrd.lt a b = true) : DatumOrd.lt b a = false := by
  cases e : DatumOrd.lt b a with
  | false => rfl
  | true => have := OrdOk.tr a b a h e; rw [OrdOk.irr] at this; cases this
theorem lt_ne {a b : α} (h : DatumOrd.lt a b = true) : a ≠ b := by
  rintro rfl
  rw [OrdOk.irr] at h
  cases h
/-- not less, and not less: along -/
theorem le_tr {a b c : α} (h1 : DatumOrd.lt b a = false) (h2 : DatumOrd.lt c b = false) : DatumOrd.lt c a = false := by
  cases e : DatumOrd.lt c a with
  | false => rfl
  | true =>
    by_cases hab : DatumOrd.lt a b = true
    · have := OrdOk.tr c a b e hab
      rw [this] at h2; cases h2
    · have hab : DatumOrd.lt a b = false := by simpa using hab
      have := OrdOk.tot a b hab h1
      subst this
      rw [e] at h2; cases h2
theorem lt_pair (p q : α × β) : DatumOrd.lt p q = if p.1 = q.1 then DatumOrd.lt p.2 q.2 else DatumOrd.lt p.1 q.1 := rfl
instance : OrdOk (α × β) where
  irr a := by rw [lt_pair, if_pos rfl, OrdOk.irr]
  tr a b c h1 h2 := by
    rw [lt_pair] at *
    by_cases e1 : a.1 = b.1
    · rw [if_pos e1] at h1
      by_cases e2 : b.1 = c.1
      · rw [if_pos e2] at h2
        rw [if_pos (e1.trans e2)]
        exact OrdOk.tr _ _ _ h1 h2
      · rw [if_neg e2] at h2
        rw [if_neg (by rw [e1]; exact e2), e1]
        exact h2
    · rw [if_neg e1] at h1
      by_cases e2 : b.1 = c.1
      · rw [if_neg (by rw [← e2]; exact e1), ← e2]
        exact h1
      · rw [if_neg e2] at h2
        have h3 := OrdOk.tr _ _ _ h1 h2
        rw [if_neg (lt_ne h3)]
        exact h3
  tot a b h1 h2 := by
    rw [lt_pair] at *
    by_cases e1 : a.1 = b.1
    · rw [if_pos e1] at h1
      rw [if_pos e1.symm] at h2
      exact Prod.ext e1 (OrdOk.tot _ _ h1 h2)
    · rw [if_neg e1] at h1
      rw [if_neg (fun e => e1 e.symm)] at h2
      exact absurd (OrdOk.tot _ _ h1 h2) e1
theorem listLt_irr : ∀ a : List α, listLt a a = false
  | [] => rfl
  | x :: a => by rw [listLt, if_pos rfl, listLt_irr a]
theorem listLt_tr : ∀ a b c : List α, listLt a b = true → listLt b c = true → listLt a c = true
  | [], [], c, h1, _ => by cases h1
  | [], y :: b, [], _, h2 => by cases h2
  | [], y :: b, z :: c, _, _ => rfl
  | x :: a, [], c, h1, _ => by cases h1
  | x :: a, y :: b, [], _, h2 => by cases h2
  | x :: a, y :: b, z :: c, h1, h2 => by
    rw [listLt] at *
    by_cases e1 : x = y
    · rw [if_pos e1] at h1
      by_cases e2 : y = z
      · rw [if_pos e2] at h2
        rw [if_pos (e1.trans e2)]
        exact listLt_tr a b c h1 h2
      · rw [if_neg e2] at h2
        rw [if_neg (by rw [e1]; exact e2), e1]
        exact h2
    · rw [if_neg e1] at h1
      by_cases e2 : y = z
      · rw [if_neg (by rw [← e2]; exact e1), ← e2]
        exact h1
      · rw [if_neg e2] at h2
        have h3 := OrdOk.tr _ _ _ h1 h2
        rw [if_neg (lt_ne h3)]
        exact h3
theorem listLt_tot : ∀ a b : List α, listLt a b = false → listLt b a = false → a = b
  | [], [], _, _ => rfl
  | [], y :: b, h1, _ => by cases h1
  | x :: a, [], _, h2 => by cases h2
  | x :: a, y :: b, h1, h2 => by
    rw [listLt] at *
    by_cases e1 : x = y
    · rw [if_pos e1] at h1
      rw [if_pos e1.symm] at h2
      rw [e1, listLt_tot a b h1 h2]
    · rw [if_neg e1] at h1
      rw [if_neg (fun e => e1 e.symm)] at h2
      exact absurd (OrdOk.tot _ _ h1 h2) e1
instance : OrdOk (List α) where
  irr := listLt_irr
  tr := listLt_tr
  tot := listLt_tot
instance : OrdOk (Tup α) where
  irr a := listLt_irr a.items
  tr a b c := listLt_tr a.items b.items c.items
  tot a b h1 h2 := by
    have := listLt_tot a.items b.items h1 h2
    cases a; cases b
    simpa using this
theorem lt_tup (a b : List α) : DatumOrd.lt (Tup.mk a) (Tup.mk b) = listLt a b := rfl
theorem minOf_le (a : α) (l : List α) : ∀ y ∈ a :: l, DatumOrd.lt y (minOf a l) = false := by
  unfold minOf
  induction l generalizing a with
  | nil => intro y hy; simp at hy; subst hy; exact OrdOk.irr _
  | cons b l ih =>
    intro y hy
    rw [List.foldl_cons]
    have h1 := ih (if DatumOrd.lt b a = true then b else a)
    have key : ∀ z, DatumOrd.lt z (if DatumOrd.lt b a = true then b else a) = false → DatumOrd.lt z (l.foldl (fun a y => if DatumOrd.lt y a = true then y else a) (if DatumOrd.lt b a = true then b else a)) = false := by
      intro z hz
      exact le_tr (h1 _ (by simp)) hz
    rcases List.mem_cons.mp hy with rfl | hy
    · apply key
      split
      · rename_i h; exact lt_asym h
      · exact OrdOk.irr _
    · rcases List.mem_cons.mp hy with rfl | hy
      · apply key
        split
        · exact OrdOk.irr _
        · rename_i h; simpa using h
      · exact h1 y (List.mem_cons_of_mem _ hy)
theorem minOf_eq {a m : α} {l : List α} (hm : m ∈ a :: l) (h : ∀ y ∈ a :: l, DatumOrd.lt y m = false) : minOf a l = m :=
  OrdOk.tot _ _ (h _ (minOf_mem a l)) (minOf_le a l m hm)
theorem maxOf_mem (a : α) : ∀ l : List α, maxOf a l ∈ a :: l := fun l => by
  unfold maxOf
  induction l generalizing a with
  | nil => simp
  | cons b l ih =>
    rw [List.foldl_cons]
    have := ih (if DatumOrd.lt a b = true then b else a)
    split at this
    · rename_i h
      rw [if_pos h]
      exact List.mem_cons_of_mem _ this
    · rename_i h
      rw [if_neg h]
      rcases List.mem_cons.mp this with e | e
      · rw [e]; simp
      · exact List.mem_cons_of_mem _ (List.mem_cons_of_mem _ e)
theorem maxOf_ge (a : α) (l : List α) : ∀ y ∈ a :: l, DatumOrd.lt (maxOf a l) y = false := by
  unfold maxOf
  induction l generalizing a with
  | nil => intro y hy; simp at hy; subst hy; exact OrdOk.irr _
  | cons b l ih =>
    intro y hy
    rw [List.foldl_cons]
    have h1 := ih (if DatumOrd.lt a b = true then b else a)
    have key : ∀ z, DatumOrd.lt (if DatumOrd.lt a b = true then b else a) z = false → DatumOrd.lt (l.foldl (fun a y => if DatumOrd.lt a y = true then y else a) (if DatumOrd.lt a b = true then b else a)) z = false := by
      intro z hz
      exact le_tr hz (h1 _ (by simp))
    rcases List.mem_cons.mp hy with rfl | hy
    · apply key
      split
      · rename_i h; exact lt_asym h
      · exact OrdOk.irr _
    · rcases List.mem_cons.mp hy with rfl | hy
      · apply key
        split
        · exact OrdOk.irr _
        · rename_i h; simpa using h
      · exact h1 y (List.mem_cons_of_mem _ hy)
theorem maxOf_eq {a m : α} {l : List α} (hm : m ∈ a :: l) (h : ∀ y ∈ a :: l, DatumOrd.lt m y = false) : maxOf a l = m :=
  OrdOk.tot _ _ (maxOf_ge a l m hm) (h _ (maxOf_mem a l))
end
/-! more operations -/
theorem o_mulL {xs : List PyData} {k : Int} (M : Ms) (h0 : -1000000000 ≤ k) (h1 : k ≤ 1000000) (h2 : xs.length * k.toNat ≤ 16777216) : oprD .Mult (.d (.list xs)) (.d (.int k)) M = Rs.ok (.d (.list (List.replicate k.toNat xs).flatten)) M := by
  unfold oprD
  exact if_pos ⟨by omega, by omega, decide_eq_true h2⟩
theorem o_mulT {xs : List PyData} {k : Int} (M : Ms) (h : xs ≠ []) (h0 : 2 ≤ k) (h1 : k ≤ 1000) (h2 : xs.length ≤ 1000) : oprD .Mult (.d (.tuple xs)) (.d (.int k)) M = Rs.ok (.d (.tuple (List.replicate k.toNat xs).flatten)) M := by
  unfold oprD
  exact if_pos ⟨h, h0, h1, h2⟩
theorem b_repr {x : PyData} (M : Ms) (h : reprB x = true) : callOp .repr [.d x] M = some (.str x.shown) := by
  show bltn .repr [x] = _
  simp [bltn, h]
theorem b_gcd (i j : Int) (M : Ms) : callOp .gcd [.d (.int i), .d (.int j)] M = some (.int (Int.gcd i j : Nat)) := rfl
theorem c_nes (a b : Str) (M : Ms) : cmpD .NotEq (.d (.str a)) (.d (.str b)) M = Rs.ok (.d (.bool (!decide (a = b)))) M := rfl
theorem c_eqs (a b : Str) (M : Ms) : cmpD .Eq (.d (.str a)) (.d (.str b)) M = Rs.ok (.d (.bool (decide (a = b)))) M := rfl
theorem lrg_z {b : Int} (t : Bool) (M : Ms) (h1 : -16777216 ≤ b) (h2 : b ≤ 16777216) : lrgM t [.d (.int b)] M = Rs.ok (.d (if t = true then .tuple ((irange 0 b).map .int) else .list ((irange 0 b).map .int))) M := by
  have h3 : -(2 ^ 62) ≤ (0 : Int) ∧ (0 : Int) < 2 ^ 62 ∧ -(2 ^ 62) ≤ b ∧ b < 2 ^ 62 ∧ line (b - 0).toNat = true ∧ line (0 - b).toNat = true := ⟨by omega, by omega, by omega, by omega, decide_eq_true (by omega), decide_eq_true (by omega)⟩
  simp only [lrgM, rangeOf, rangeD]
  rw [if_pos h3, if_pos trivial, rngD]
  have e : datas (isD (irange 0 b)) = some ((irange 0 b).map .int) := by
    unfold isD
    generalize irange 0 b = l
    induction l with
    | nil => rfl
    | cons a l ih => rw [List.map_cons, datas_cons, ih]; rfl
  dsimp only
  rw [e]
  have hl : line ((irange 0 b).map PyData.int).length = true := by
    rw [List.length_map, irange_len]
    exact decide_eq_true (by omega)
  simp only [hl, if_true]
end Ob

set_option Elab.async false
set_option linter.all false
set_option maxRecDepth 100000
set_option maxHeartbeats 4000000
/-! repr of plain values, == of plain values -/
namespace Ob
open PySem PySem.Spec PyProof.Rows L2
mutual
/-- plain, its numbers not too great -/
def rpB : PyData → Bool
  | .none => true
  | .bool _ => true
  | .int i => decide (i.natAbs < 10 ^ 24)
  | .tuple xs => rpAll xs
  | _ => false
def rpAll : List PyData → Bool
  | [] => true
  | x :: xs => rpB x && rpAll xs
end
mutual
def nodes : PyData → Nat
  | .tuple xs => 4 + nodesAll xs
  | _ => 1
def nodesAll : List PyData → Nat
  | [] => 0
  | x :: xs => nodes x + nodesAll xs
end
mutual
theorem shown_le : ∀ x : PyData, rpB x = true → x.shown.length + 2 ≤ 32 * nodes x ∧ x.showable = true ∧ x.hasDict = false
  | .none, _ => ⟨by decide, by rw [PyData.showable], by rw [PyData.hasDict]⟩
  | .bool b, _ => ⟨by cases b <;> decide, by rw [PyData.showable], by rw [PyData.hasDict]⟩
  | .int i, h => by
    have h : i.natAbs < 10 ^ 24 := by simpa [rpB] using h
    have h1 := int_text_length_le10 (k := 24) (by decide) h
    refine ⟨?_, ?_, by rw [PyData.hasDict]⟩
    · have e : nodes (.int i) = 1 := by simp [nodes]
      rw [PyData.shown, e]
      show (Str.ofString (toString i)).length + 2 ≤ _
      rw [PySem.ofString_length]
      omega
    · rw [PyData.showable]
      refine decide_eq_true ?_
      by_cases h0 : i.natAbs = 0
      · rw [h0]; decide
      · have := (Nat.log2_lt h0 (k := 80)).mpr (Nat.lt_of_lt_of_le h (by decide))
        omega
  | .tuple xs, h => by
    have h : rpAll xs = true := by simpa [rpB] using h
    obtain ⟨h1, h2, h3⟩ := shownAll_le xs h
    refine ⟨?_, by rw [PyData.showable]; exact h2, by rw [PyData.hasDict]; exact h3⟩
    rw [PyData.shown, nodes]
    unfold tupleText
    rw [strLen_append, strLen_append]
    have e1 : ("(" : Str).length = 1 := rfl
    have e2 : (Str.ofString (if (PyData.shownAll xs).length == 1 then ",)" else ")")).length ≤ 2 := by split <;> decide
    cases hx : PyData.shownAll xs with
    | nil =>
      rw [hx] at e2
      have e3 : (Str.join ", " []).length = 0 := rfl
      omega
    | cons y ys =>
      rw [hx] at e2 h1
      have e3 := join_length_add (y :: ys) (by simp)
      omega
  | .list _, h => by simp [rpB] at h
  | .str _, h => by simp [rpB] at h
  | .dict _, h => by simp [rpB] at h
theorem shownAll_le : ∀ xs : List PyData, rpAll xs = true → piled (PyData.shownAll xs) ≤ 32 * nodesAll xs ∧ PyData.showableAll xs = true ∧ PyData.hasDictAll xs = false
  | [], _ => ⟨by rw [PyData.shownAll]; decide, by rw [PyData.showableAll], by rw [PyData.hasDictAll]⟩
  | x :: xs, h => by
    have h : rpB x = true ∧ rpAll xs = true := by simpa [rpAll] using h
    obtain ⟨a1, a2, a3⟩ := shown_le x h.1
    obtain ⟨b1, b2, b3⟩ := shownAll_le xs h.2
    refine ⟨?_, by rw [PyData.showableAll, a2, b2]; rfl, by rw [PyData.hasDictAll, a3, b3]; rfl⟩
    rw [PyData.shownAll, nodesAll]
    have : piled (x.shown :: PyData.shownAll xs) = x.shown.length + 2 + piled (PyData.shownAll xs) := by simp [piled]
    omega
end
theorem reprB_of {x : PyData} (h : rpB x = true) (h1 : nodes x ≤ 500000) (h2 : x.depth ≤ 60) : reprB x = true := by
  obtain ⟨a1, a2, a3⟩ := shown_le x h
  unfold reprB
  rw [a2, a3, decide_eq_true (show x.shown.length ≤ 16777216 by omega), decide_eq_true h2]
  rfl
theorem rpAll_map {α : Type} {g : α → PyData} {l : List α} (h : ∀ a ∈ l, rpB (g a) = true) : rpAll (l.map g) = true := by
  induction l with
  | nil => rw [List.map_nil, rpAll]
  | cons a l ih => rw [List.map_cons, rpAll, h a (by simp), ih fun b hb => h b (by simp [hb])]; rfl
theorem nodesAll_map {α : Type} {g : α → PyData} {l : List α} {k : Nat} (h : ∀ a ∈ l, nodes (g a) ≤ k) : nodesAll (l.map g) ≤ k * l.length := by
  induction l with
  | nil => rw [List.map_nil, nodesAll]; omega
  | cons a l ih =>
    rw [List.map_cons, nodesAll, List.length_cons, Nat.mul_succ]
    have := h a (by simp)
    have := ih fun b hb => h b (by simp [hb])
    omega
theorem rp_int {i : Int} (h : i.natAbs < 1000000000000000000000000) : rpB (.int i) = true := by rw [rpB]; exact decide_eq_true h
theorem rpT {xs : List PyData} (h : rpAll xs = true) : rpB (.tuple xs) = true := by rw [rpB, h]
theorem rp1 {x : PyData} {xs : List PyData} (h : rpB x = true) (h2 : rpAll xs = true) : rpAll (x :: xs) = true := by rw [rpAll, h, h2]; rfl
theorem rp0 : rpAll [] = true := by rw [rpAll]
theorem rp_ints {l : List Int} (h : ∀ i ∈ l, i.natAbs < 1000000000000000000000000) : rpB (.tuple (l.map .int)) = true := rpT (rpAll_map fun i hi => rp_int (h i hi))
/-- repr(x) != repr(x) -/
theorem repr_ok' {x : PyData} (M : Ms) (h : rpB x = true) (h1 : nodes x ≤ 500000) (h2 : x.depth ≤ 60) : callOp .repr [.d x] M = some (.str x.shown) := b_repr M (reprB_of h h1 h2)
mutual
theorem pl_lay : ∀ x : PyData, pl x = true → x.canLay0 = true ∧ PyData.eqv x x = true
  | .none, _ => ⟨by rw [PyData.canLay0], by rw [PyData.eqv]⟩
  | .bool b, _ => ⟨by rw [PyData.canLay0], by rw [PyData.eqv]; simp⟩
  | .int i, _ => ⟨by rw [PyData.canLay0], by rw [PyData.eqv]; simp⟩
  | .tuple xs, h => by
    rw [pl, Bool.and_eq_true] at h
    obtain ⟨a, b⟩ := plAll_lay xs h.2
    exact ⟨by rw [PyData.canLay0]; exact a, by rw [PyData.eqv]; exact b⟩
  | .list _, h => by simp [pl] at h
  | .str _, h => by simp [pl] at h
  | .dict _, h => by simp [pl] at h
theorem plAll_lay : ∀ xs : List PyData, plAll xs = true → PyData.canLayAll0 xs = true ∧ PyData.eqvAll xs xs = true
  | [], _ => ⟨by rw [PyData.canLayAll0], by rw [PyData.eqvAll]⟩
  | x :: xs, h => by
    rw [plAll, Bool.and_eq_true] at h
    obtain ⟨a1, a2⟩ := pl_lay x h.1
    obtain ⟨b1, b2⟩ := plAll_lay xs h.2
    exact ⟨by rw [PyData.canLayAll0, a1, b1]; rfl, by rw [PyData.eqvAll, a2, b2]; rfl⟩
end
theorem c_eq_same {x y : PyData} (M : Ms) (e : x = y) (h : pl y = true) (hd : y.depth ≤ 64) : cmpD .Eq (.d x) (.d y) M = Rs.ok (.d (.bool true)) M := by
  subst e
  obtain ⟨a, b⟩ := pl_lay x h
  rw [c_eq M (shp_of a hd) (shp_of a hd), b]
theorem c_ne_same {x y : PyData} (M : Ms) (e : x = y) (h : pl y = true) (hd : y.depth ≤ 64) : cmpD .NotEq (.d x) (.d y) M = Rs.ok (.d (.bool false)) M := by
  subst e
  obtain ⟨a, b⟩ := pl_lay x h
  rw [c_ne M (shp_of a hd) (shp_of a hd), b]
  rfl
theorem pairs_map {α β : Type} (f : α → PyData) (g : β → PyData) : ∀ (l : List α) (m : List β), pairs (l.map f) (m.map g) = (l.zip m).map fun p => D.d (.tuple [f p.1, g p.2])
  | [], m => by simp [pairs]
  | a :: l, [] => by simp [pairs]
  | a :: l, b :: m => by simp [pairs, pairs_map f g l m]
/-! all subsets -/
def fSub : Fd := { name := "_law_subsets", ps := ["things"], N := ["things", "found", "thing", "one"], nw := false, body :=
    (.cons (.asg (.nm 1) (.lst (.cons (.tup .nil) .nil)))
    (.cons (.fors (.nm 2) (.var 0)
    (.cons (.asg (.nm 1) (.bin .Add (.var 1) (.lc (.bin .Add (.var 3) (.tup (.cons (.var 2) .nil))) (.nm 3) (.var 1) .nop [3])))
    .nil))
    (.cons (.ret (.var 1))
    .nil))) }
def subs : List Int → List (List Int)
  | l => l.foldl (fun acc x => acc ++ acc.map (· ++ [x])) [[]]
theorem subs_len (l : List Int) : (subs l).length = 2 ^ l.length := by
  have key : ∀ (l : List Int) (acc : List (List Int)), (l.foldl (fun acc x => acc ++ acc.map (· ++ [x])) acc).length = acc.length * 2 ^ l.length := by
    intro l
    induction l with
    | nil => intro acc; simp
    | cons a l ih =>
      intro acc
      rw [List.foldl_cons, ih, List.length_append, List.length_map, List.length_cons, Nat.pow_succ, ← Nat.two_mul, Nat.mul_comm 2, Nat.mul_assoc, Nat.mul_comm 2]
  have := key l [[]]
  simpa [subs] using this
theorem subs_snoc (l : List Int) (x : Int) : subs (l ++ [x]) = subs l ++ (subs l).map (· ++ [x]) := by
  unfold subs
  rw [List.foldl_append]
  rfl
theorem subs_lot : ∀ (k : Nat) (s : List Int), s ∈ subs (irange 0 (k : Nat)) ↔ Lot (k : Nat) s
  | 0, s => by
    rw [show ((0 : Nat) : Int) = 0 from rfl, irange_nil (Int.le_refl _)]
    show s ∈ [[]] ↔ _
    rw [List.mem_singleton]
    constructor
    · rintro rfl; exact lot_nil _
    · intro h
      cases s with
      | nil => rfl
      | cons a s => have := h.ok a (by simp); omega
  | k + 1, s => by
    rw [show ((k + 1 : Nat) : Int) = (k : Nat) + 1 by omega, irange_snoc (by omega), subs_snoc, List.mem_append, List.mem_map]
    constructor
    · rintro (h | ⟨t, h, rfl⟩)
      · exact lot_up ((subs_lot k s).mp h)
      · exact lot_snoc ((subs_lot k t).mp h) (by omega)
    · intro h
      rcases List.eq_nil_or_concat s with rfl | ⟨t, a, e⟩
      · exact .inl ((subs_lot k []).mpr (lot_nil _))
      · rw [List.concat_eq_append] at e
        subst e
        have hp := List.pairwise_append.mp h.up
        have ha := h.ok a (by simp)
        by_cases e : a = (k : Nat)
        · refine .inr ⟨t, (subs_lot k t).mpr ⟨hp.1, fun b hb => ?_⟩, by rw [e]⟩
          have := hp.2.2 b hb a (by simp)
          have := h.ok b (by simp [hb])
          omega
        · refine .inl ((subs_lot k _).mpr ⟨h.up, fun b hb => ?_⟩)
          have hb2 := h.ok b hb
          rcases List.mem_append.mp hb with q | q
          · have := hp.2.2 b q a (by simp)
            omega
          · have : b = a := by simpa using q
            omega
section
variable {T : List Fd} {wf i : Nat}
theorem sub_ok (h : T[i]? = some fSub) {n : Nat} (hn : 1 ≤ n) (l : List Int) (hl : l.length ≤ 16) (M : Ms) : evFn T wf n i [.d (.list (l.map .int))] M = Rs.ok (.d (.list ((subs l).map fun s => .tuple (s.map .int)))) M := by
  obtain ⟨n, rfl, hn'⟩ := lev hn
  rw [evF _ h rfl]
  simp only [fSub]
  apply WP.to_eq
  simp only [↓WP_ok, ↓WPO_some, ↓WPB_t, ↓WPB_f, ↓WP_end, ↓pst_q, ↓pso_q, ↓pth_p, ↓WPO_map, ↓wz_var, ↓wz_int, ↓wz_bl, ↓wz_non, ↓wz_str, ↓wz_gi, ↓wz_bin, ↓wz_neg, ↓wz_cmp, ↓wz_cmp2, ↓wz_conj, ↓wz_disj, ↓wz_not, ↓wz_ite, ↓wz_tup, ↓wz_lst, ↓wz_ix, ↓wz_rev, ↓wz_nop, ↓wz_call, ↓wz_blt, ↓wz_isi, ↓wz_lc, ↓wz_lcO, ↓wz_rng, ↓wz_zip, ↓wz_lrg, ↓wz_sst, ↓wz_enm, ↓wz_get, ↓wz_get2, ↓wz_esn, ↓wz_esc, ↓wz_pn, ↓wz_pc, ↓wz_mv, ↓wz_ml, ↓wz_mk, ↓wz_mt, ↓wz_asg1, ↓wz_asgt, ↓wz_new, ↓wz_par, ↓wz_put, ↓wz_app, ↓wz_aug, ↓wz_ex, ↓wz_ifs, ↓wz_fors, ↓wz_forO, ↓wz_whl, ↓wz_ret, ↓wz_retL, ↓wz_ret0, ↓wz_brk, ↓wz_cont, ↓wz_pass, ↓wz_ssn, ↓wz_ssc, ↓wz_fb, ↓wz_lcb, negD_i, notD_b, revD_l, revD_t, isiD_d, layL_cup, layL_l, sA_nil, sA_cons, nxt_nx, nxt_rt, nxt_bk, nxt_ct, view_d, o_add, o_sub, c_lt, c_le, c_gt, c_ge, c_eqi, c_nei, ix_t0, ix_t1, ix_t2, ix_l0, ix_l1, ix_c0, ix_c1, put_c0, put_c1, b_int, b_abs, b_lenT, b_lenL, b_tupL, b_tupT, b_lstL, b_lstT, b_lstS, b_min2, b_max2, someD_d, lcM_its, lcM_l, lcM_t, forM_its, forM_l, forM_t, WP_bind, guardR_t, bt_nm, bt_tp, bts_nil, bts_cons, wipe_nil, wipe_cons, tT0, tT1, tT2, tT3, tT4, tT5, tT6, tT7, tT8, tT9, tT10, tT11, tT12, tL0, tL1, tL2, tL3, tL4, tL5, tL6, tL7, tL8, tL9, tL10, tL11, tL12, tL13, tL14, tL15, tL16, opt_map_some, opt_bind_some, finF_d, finF_nx, List.getD_cons_zero, List.getD_cons_succ, List.set_cons_zero, List.set_cons_succ, List.map_cons, List.map_nil, List.length_cons, List.length_nil, List.cons_append, List.nil_append, List.replicate_succ, List.replicate_zero, Nat.reduceAdd, Nat.reduceSub, Nat.sub_self, ↓wz_lc2, ↓wz_lc2b, ↓wz_slJ, slF_i, slT_i, slB_i, slD_t, slD_l, lc2M_its, lc2M_l, lc2M_t, innL_its, innL_l, innL_t, isD_map, ↓wz_slF_int, ↓wz_slT_int, ↓wz_slB_int_int, ↓wz_slB_int_neg, ↓wz_slB_int_var, ↓wz_slB_int_bin, ↓wz_slB_int_ix, ↓wz_slF_neg, ↓wz_slT_neg, ↓wz_slB_neg_int, ↓wz_slB_neg_neg, ↓wz_slB_neg_var, ↓wz_slB_neg_bin, ↓wz_slB_neg_ix, ↓wz_slF_var, ↓wz_slT_var, ↓wz_slB_var_int, ↓wz_slB_var_neg, ↓wz_slB_var_var, ↓wz_slB_var_bin, ↓wz_slB_var_ix, ↓wz_slF_bin, ↓wz_slT_bin, ↓wz_slB_bin_int, ↓wz_slB_bin_neg, ↓wz_slB_bin_var, ↓wz_slB_bin_bin, ↓wz_slB_bin_ix, ↓wz_slF_ix, ↓wz_slT_ix, ↓wz_slB_ix_int, ↓wz_slB_ix_neg, ↓wz_slB_ix_var, ↓wz_slB_ix_bin, ↓wz_slB_ix_ix, ↓wz_slF_call, ↓wz_slT_call, ↓wz_slF_blt, ↓wz_slT_blt, ↓wz_lcn, ↓wz_lcc, ↓wz_forn, ↓wz_forc, consO_s, consO_n, forK_nx, forK_ct, forK_bk, forK_rt, c_isN, c_isnN, c_isT, c_isF, c_isnT, c_isnF, isNone_n, isNone_t, isNone_l, isNone_i, isNone_b, c_nel0, c_eql0, Bool.not_true, Bool.not_false, o_catL, o_catT, Nat.reduceLeDiff, ↓wz_mp, ↓wz_ms, layS_i, c_nes, c_eqs, b_gcd]
  rw [← isD_map, List.map_map]
  refine WP.forM (g := D.d ∘ PyData.int) (fun l1 ρ M' => M' = M ∧ (∀ s ∈ subs l1, s.length ≤ l1.length) ∧ ∃ o : Nat → Option D, ρ = [some (.d (.list (l.map .int))), some (.d (.list ((subs l1).map fun s => .tuple (s.map .int)))), o 2, none]) ⟨rfl, by simp [subs], exO rfl⟩ ?_ ?_
  · rintro l1 a l2 ρ M' e ⟨rfl, hs, o, rfl⟩
    have hl1 : l1.length < l.length := by rw [e]; simp
    have h16 : 2 ^ l1.length ≤ 2 ^ 16 := Nat.pow_le_pow_right (by decide) (by omega)
    simp only [↓WP_ok, ↓WPO_some, ↓WPB_t, ↓WPB_f, ↓WP_end, ↓pst_q, ↓pso_q, ↓pth_p, ↓WPO_map, ↓wz_var, ↓wz_int, ↓wz_bl, ↓wz_non, ↓wz_str, ↓wz_gi, ↓wz_bin, ↓wz_neg, ↓wz_cmp, ↓wz_cmp2, ↓wz_conj, ↓wz_disj, ↓wz_not, ↓wz_ite, ↓wz_tup, ↓wz_lst, ↓wz_ix, ↓wz_rev, ↓wz_nop, ↓wz_call, ↓wz_blt, ↓wz_isi, ↓wz_lc, ↓wz_lcO, ↓wz_rng, ↓wz_zip, ↓wz_lrg, ↓wz_sst, ↓wz_enm, ↓wz_get, ↓wz_get2, ↓wz_esn, ↓wz_esc, ↓wz_pn, ↓wz_pc, ↓wz_mv, ↓wz_ml, ↓wz_mk, ↓wz_mt, ↓wz_asg1, ↓wz_asgt, ↓wz_new, ↓wz_par, ↓wz_put, ↓wz_app, ↓wz_aug, ↓wz_ex, ↓wz_ifs, ↓wz_fors, ↓wz_forO, ↓wz_whl, ↓wz_ret, ↓wz_retL, ↓wz_ret0, ↓wz_brk, ↓wz_cont, ↓wz_pass, ↓wz_ssn, ↓wz_ssc, ↓wz_fb, ↓wz_lcb, negD_i, notD_b, revD_l, revD_t, isiD_d, layL_cup, layL_l, sA_nil, sA_cons, nxt_nx, nxt_rt, nxt_bk, nxt_ct, view_d, o_add, o_sub, c_lt, c_le, c_gt, c_ge, c_eqi, c_nei, ix_t0, ix_t1, ix_t2, ix_l0, ix_l1, ix_c0, ix_c1, put_c0, put_c1, b_int, b_abs, b_lenT, b_lenL, b_tupL, b_tupT, b_lstL, b_lstT, b_lstS, b_min2, b_max2, someD_d, lcM_its, lcM_l, lcM_t, forM_its, forM_l, forM_t, WP_bind, guardR_t, bt_nm, bt_tp, bts_nil, bts_cons, wipe_nil, wipe_cons, tT0, tT1, tT2, tT3, tT4, tT5, tT6, tT7, tT8, tT9, tT10, tT11, tT12, tL0, tL1, tL2, tL3, tL4, tL5, tL6, tL7, tL8, tL9, tL10, tL11, tL12, tL13, tL14, tL15, tL16, opt_map_some, opt_bind_some, finF_d, finF_nx, List.getD_cons_zero, List.getD_cons_succ, List.set_cons_zero, List.set_cons_succ, List.map_cons, List.map_nil, List.length_cons, List.length_nil, List.cons_append, List.nil_append, List.replicate_succ, List.replicate_zero, Nat.reduceAdd, Nat.reduceSub, Nat.sub_self, ↓wz_lc2, ↓wz_lc2b, ↓wz_slJ, slF_i, slT_i, slB_i, slD_t, slD_l, lc2M_its, lc2M_l, lc2M_t, innL_its, innL_l, innL_t, isD_map, ↓wz_slF_int, ↓wz_slT_int, ↓wz_slB_int_int, ↓wz_slB_int_neg, ↓wz_slB_int_var, ↓wz_slB_int_bin, ↓wz_slB_int_ix, ↓wz_slF_neg, ↓wz_slT_neg, ↓wz_slB_neg_int, ↓wz_slB_neg_neg, ↓wz_slB_neg_var, ↓wz_slB_neg_bin, ↓wz_slB_neg_ix, ↓wz_slF_var, ↓wz_slT_var, ↓wz_slB_var_int, ↓wz_slB_var_neg, ↓wz_slB_var_var, ↓wz_slB_var_bin, ↓wz_slB_var_ix, ↓wz_slF_bin, ↓wz_slT_bin, ↓wz_slB_bin_int, ↓wz_slB_bin_neg, ↓wz_slB_bin_var, ↓wz_slB_bin_bin, ↓wz_slB_bin_ix, ↓wz_slF_ix, ↓wz_slT_ix, ↓wz_slB_ix_int, ↓wz_slB_ix_neg, ↓wz_slB_ix_var, ↓wz_slB_ix_bin, ↓wz_slB_ix_ix, ↓wz_slF_call, ↓wz_slT_call, ↓wz_slF_blt, ↓wz_slT_blt, ↓wz_lcn, ↓wz_lcc, ↓wz_forn, ↓wz_forc, consO_s, consO_n, forK_nx, forK_ct, forK_bk, forK_rt, c_isN, c_isnN, c_isT, c_isF, c_isnT, c_isnF, isNone_n, isNone_t, isNone_l, isNone_i, isNone_b, c_nel0, c_eql0, Bool.not_true, Bool.not_false, o_catL, o_catT, Nat.reduceLeDiff, ↓wz_mp, ↓wz_ms, layS_i, c_nes, c_eqs, b_gcd]
    rw [List.map_map]
    refine WP.lcA (fun s : List Int => .tuple ((s ++ [a]).map .int)) (fun s hs' => ?_) ?_
    · have := hs s hs'
      simp only [↓WP_ok, ↓WPO_some, ↓WPB_t, ↓WPB_f, ↓WP_end, ↓pst_q, ↓pso_q, ↓pth_p, ↓WPO_map, ↓wz_var, ↓wz_int, ↓wz_bl, ↓wz_non, ↓wz_str, ↓wz_gi, ↓wz_bin, ↓wz_neg, ↓wz_cmp, ↓wz_cmp2, ↓wz_conj, ↓wz_disj, ↓wz_not, ↓wz_ite, ↓wz_tup, ↓wz_lst, ↓wz_ix, ↓wz_rev, ↓wz_nop, ↓wz_call, ↓wz_blt, ↓wz_isi, ↓wz_lc, ↓wz_lcO, ↓wz_rng, ↓wz_zip, ↓wz_lrg, ↓wz_sst, ↓wz_enm, ↓wz_get, ↓wz_get2, ↓wz_esn, ↓wz_esc, ↓wz_pn, ↓wz_pc, ↓wz_mv, ↓wz_ml, ↓wz_mk, ↓wz_mt, ↓wz_asg1, ↓wz_asgt, ↓wz_new, ↓wz_par, ↓wz_put, ↓wz_app, ↓wz_aug, ↓wz_ex, ↓wz_ifs, ↓wz_fors, ↓wz_forO, ↓wz_whl, ↓wz_ret, ↓wz_retL, ↓wz_ret0, ↓wz_brk, ↓wz_cont, ↓wz_pass, ↓wz_ssn, ↓wz_ssc, ↓wz_fb, ↓wz_lcb, negD_i, notD_b, revD_l, revD_t, isiD_d, layL_cup, layL_l, sA_nil, sA_cons, nxt_nx, nxt_rt, nxt_bk, nxt_ct, view_d, o_add, o_sub, c_lt, c_le, c_gt, c_ge, c_eqi, c_nei, ix_t0, ix_t1, ix_t2, ix_l0, ix_l1, ix_c0, ix_c1, put_c0, put_c1, b_int, b_abs, b_lenT, b_lenL, b_tupL, b_tupT, b_lstL, b_lstT, b_lstS, b_min2, b_max2, someD_d, lcM_its, lcM_l, lcM_t, forM_its, forM_l, forM_t, WP_bind, guardR_t, bt_nm, bt_tp, bts_nil, bts_cons, wipe_nil, wipe_cons, tT0, tT1, tT2, tT3, tT4, tT5, tT6, tT7, tT8, tT9, tT10, tT11, tT12, tL0, tL1, tL2, tL3, tL4, tL5, tL6, tL7, tL8, tL9, tL10, tL11, tL12, tL13, tL14, tL15, tL16, opt_map_some, opt_bind_some, finF_d, finF_nx, List.getD_cons_zero, List.getD_cons_succ, List.set_cons_zero, List.set_cons_succ, List.map_cons, List.map_nil, List.length_cons, List.length_nil, List.cons_append, List.nil_append, List.replicate_succ, List.replicate_zero, Nat.reduceAdd, Nat.reduceSub, Nat.sub_self, ↓wz_lc2, ↓wz_lc2b, ↓wz_slJ, slF_i, slT_i, slB_i, slD_t, slD_l, lc2M_its, lc2M_l, lc2M_t, innL_its, innL_l, innL_t, isD_map, ↓wz_slF_int, ↓wz_slT_int, ↓wz_slB_int_int, ↓wz_slB_int_neg, ↓wz_slB_int_var, ↓wz_slB_int_bin, ↓wz_slB_int_ix, ↓wz_slF_neg, ↓wz_slT_neg, ↓wz_slB_neg_int, ↓wz_slB_neg_neg, ↓wz_slB_neg_var, ↓wz_slB_neg_bin, ↓wz_slB_neg_ix, ↓wz_slF_var, ↓wz_slT_var, ↓wz_slB_var_int, ↓wz_slB_var_neg, ↓wz_slB_var_var, ↓wz_slB_var_bin, ↓wz_slB_var_ix, ↓wz_slF_bin, ↓wz_slT_bin, ↓wz_slB_bin_int, ↓wz_slB_bin_neg, ↓wz_slB_bin_var, ↓wz_slB_bin_bin, ↓wz_slB_bin_ix, ↓wz_slF_ix, ↓wz_slT_ix, ↓wz_slB_ix_int, ↓wz_slB_ix_neg, ↓wz_slB_ix_var, ↓wz_slB_ix_bin, ↓wz_slB_ix_ix, ↓wz_slF_call, ↓wz_slT_call, ↓wz_slF_blt, ↓wz_slT_blt, ↓wz_lcn, ↓wz_lcc, ↓wz_forn, ↓wz_forc, consO_s, consO_n, forK_nx, forK_ct, forK_bk, forK_rt, c_isN, c_isnN, c_isT, c_isF, c_isnT, c_isnF, isNone_n, isNone_t, isNone_l, isNone_i, isNone_b, c_nel0, c_eql0, Bool.not_true, Bool.not_false, o_catL, o_catT, Nat.reduceLeDiff, ↓wz_mp, ↓wz_ms, layS_i, c_nes, c_eqs, b_gcd, Function.comp, o_catT _ (show (s.map PyData.int).length + [PyData.int a].length ≤ 16777216 by simp; omega)]
      rw [List.map_append]
      exact ⟨by trivial, by trivial⟩
    have hcat := o_catL (xs := (subs l1).map fun s => .tuple (s.map .int)) (ys := (subs l1).map fun s => .tuple ((s ++ [a]).map .int)) M' (by rw [List.length_map, List.length_map, subs_len]; omega)
    simp only [↓WP_ok, ↓WPO_some, ↓WPB_t, ↓WPB_f, ↓WP_end, ↓pst_q, ↓pso_q, ↓pth_p, ↓WPO_map, ↓wz_var, ↓wz_int, ↓wz_bl, ↓wz_non, ↓wz_str, ↓wz_gi, ↓wz_bin, ↓wz_neg, ↓wz_cmp, ↓wz_cmp2, ↓wz_conj, ↓wz_disj, ↓wz_not, ↓wz_ite, ↓wz_tup, ↓wz_lst, ↓wz_ix, ↓wz_rev, ↓wz_nop, ↓wz_call, ↓wz_blt, ↓wz_isi, ↓wz_lc, ↓wz_lcO, ↓wz_rng, ↓wz_zip, ↓wz_lrg, ↓wz_sst, ↓wz_enm, ↓wz_get, ↓wz_get2, ↓wz_esn, ↓wz_esc, ↓wz_pn, ↓wz_pc, ↓wz_mv, ↓wz_ml, ↓wz_mk, ↓wz_mt, ↓wz_asg1, ↓wz_asgt, ↓wz_new, ↓wz_par, ↓wz_put, ↓wz_app, ↓wz_aug, ↓wz_ex, ↓wz_ifs, ↓wz_fors, ↓wz_forO, ↓wz_whl, ↓wz_ret, ↓wz_retL, ↓wz_ret0, ↓wz_brk, ↓wz_cont, ↓wz_pass, ↓wz_ssn, ↓wz_ssc, ↓wz_fb, ↓wz_lcb, negD_i, notD_b, revD_l, revD_t, isiD_d, layL_cup, layL_l, sA_nil, sA_cons, nxt_nx, nxt_rt, nxt_bk, nxt_ct, view_d, o_add, o_sub, c_lt, c_le, c_gt, c_ge, c_eqi, c_nei, ix_t0, ix_t1, ix_t2, ix_l0, ix_l1, ix_c0, ix_c1, put_c0, put_c1, b_int, b_abs, b_lenT, b_lenL, b_tupL, b_tupT, b_lstL, b_lstT, b_lstS, b_min2, b_max2, someD_d, lcM_its, lcM_l, lcM_t, forM_its, forM_l, forM_t, WP_bind, guardR_t, bt_nm, bt_tp, bts_nil, bts_cons, wipe_nil, wipe_cons, tT0, tT1, tT2, tT3, tT4, tT5, tT6, tT7, tT8, tT9, tT10, tT11, tT12, tL0, tL1, tL2, tL3, tL4, tL5, tL6, tL7, tL8, tL9, tL10, tL11, tL12, tL13, tL14, tL15, tL16, opt_map_some, opt_bind_some, finF_d, finF_nx, List.getD_cons_zero, List.getD_cons_succ, List.set_cons_zero, List.set_cons_succ, List.map_cons, List.map_nil, List.length_cons, List.length_nil, List.cons_append, List.nil_append, List.replicate_succ, List.replicate_zero, Nat.reduceAdd, Nat.reduceSub, Nat.sub_self, ↓wz_lc2, ↓wz_lc2b, ↓wz_slJ, slF_i, slT_i, slB_i, slD_t, slD_l, lc2M_its, lc2M_l, lc2M_t, innL_its, innL_l, innL_t, isD_map, ↓wz_slF_int, ↓wz_slT_int, ↓wz_slB_int_int, ↓wz_slB_int_neg, ↓wz_slB_int_var, ↓wz_slB_int_bin, ↓wz_slB_int_ix, ↓wz_slF_neg, ↓wz_slT_neg, ↓wz_slB_neg_int, ↓wz_slB_neg_neg, ↓wz_slB_neg_var, ↓wz_slB_neg_bin, ↓wz_slB_neg_ix, ↓wz_slF_var, ↓wz_slT_var, ↓wz_slB_var_int, ↓wz_slB_var_neg, ↓wz_slB_var_var, ↓wz_slB_var_bin, ↓wz_slB_var_ix, ↓wz_slF_bin, ↓wz_slT_bin, ↓wz_slB_bin_int, ↓wz_slB_bin_neg, ↓wz_slB_bin_var, ↓wz_slB_bin_bin, ↓wz_slB_bin_ix, ↓wz_slF_ix, ↓wz_slT_ix, ↓wz_slB_ix_int, ↓wz_slB_ix_neg, ↓wz_slB_ix_var, ↓wz_slB_ix_bin, ↓wz_slB_ix_ix, ↓wz_slF_call, ↓wz_slT_call, ↓wz_slF_blt, ↓wz_slT_blt, ↓wz_lcn, ↓wz_lcc, ↓wz_forn, ↓wz_forc, consO_s, consO_n, forK_nx, forK_ct, forK_bk, forK_rt, c_isN, c_isnN, c_isT, c_isF, c_isnT, c_isnF, isNone_n, isNone_t, isNone_l, isNone_i, isNone_b, c_nel0, c_eql0, Bool.not_true, Bool.not_false, o_catL, o_catT, Nat.reduceLeDiff, ↓wz_mp, ↓wz_ms, layS_i, c_nes, c_eqs, b_gcd, hcat]
    refine ⟨by trivial, by trivial, ?_, ?_⟩
    · intro s hs'
      rw [subs_snoc, List.mem_append, List.mem_map] at hs'
      rw [List.length_append, List.length_cons, List.length_nil]
      rcases hs' with q | ⟨t, q, rfl⟩
      · have := hs s q; omega
      · have := hs t q
        rw [List.length_append, List.length_cons, List.length_nil]
        omega
    · have e2 : (subs l1).map (fun s => PyData.tuple (s.map .int)) ++ (subs l1).map (fun s => PyData.tuple ((s ++ [a]).map .int)) = (subs (l1 ++ [a])).map fun s => .tuple (s.map .int) := by
        rw [subs_snoc, List.map_append, List.map_map]
        rfl
      rw [e2]
      exact exO rfl
  · rintro ρ M' ⟨rfl, _, o, rfl⟩
    simp only [↓WP_ok, ↓WPO_some, ↓WPB_t, ↓WPB_f, ↓WP_end, ↓pst_q, ↓pso_q, ↓pth_p, ↓WPO_map, ↓wz_var, ↓wz_int, ↓wz_bl, ↓wz_non, ↓wz_str, ↓wz_gi, ↓wz_bin, ↓wz_neg, ↓wz_cmp, ↓wz_cmp2, ↓wz_conj, ↓wz_disj, ↓wz_not, ↓wz_ite, ↓wz_tup, ↓wz_lst, ↓wz_ix, ↓wz_rev, ↓wz_nop, ↓wz_call, ↓wz_blt, ↓wz_isi, ↓wz_lc, ↓wz_lcO, ↓wz_rng, ↓wz_zip, ↓wz_lrg, ↓wz_sst, ↓wz_enm, ↓wz_get, ↓wz_get2, ↓wz_esn, ↓wz_esc, ↓wz_pn, ↓wz_pc, ↓wz_mv, ↓wz_ml, ↓wz_mk, ↓wz_mt, ↓wz_asg1, ↓wz_asgt, ↓wz_new, ↓wz_par, ↓wz_put, ↓wz_app, ↓wz_aug, ↓wz_ex, ↓wz_ifs, ↓wz_fors, ↓wz_forO, ↓wz_whl, ↓wz_ret, ↓wz_retL, ↓wz_ret0, ↓wz_brk, ↓wz_cont, ↓wz_pass, ↓wz_ssn, ↓wz_ssc, ↓wz_fb, ↓wz_lcb, negD_i, notD_b, revD_l, revD_t, isiD_d, layL_cup, layL_l, sA_nil, sA_cons, nxt_nx, nxt_rt, nxt_bk, nxt_ct, view_d, o_add, o_sub, c_lt, c_le, c_gt, c_ge, c_eqi, c_nei, ix_t0, ix_t1, ix_t2, ix_l0, ix_l1, ix_c0, ix_c1, put_c0, put_c1, b_int, b_abs, b_lenT, b_lenL, b_tupL, b_tupT, b_lstL, b_lstT, b_lstS, b_min2, b_max2, someD_d, lcM_its, lcM_l, lcM_t, forM_its, forM_l, forM_t, WP_bind, guardR_t, bt_nm, bt_tp, bts_nil, bts_cons, wipe_nil, wipe_cons, tT0, tT1, tT2, tT3, tT4, tT5, tT6, tT7, tT8, tT9, tT10, tT11, tT12, tL0, tL1, tL2, tL3, tL4, tL5, tL6, tL7, tL8, tL9, tL10, tL11, tL12, tL13, tL14, tL15, tL16, opt_map_some, opt_bind_some, finF_d, finF_nx, List.getD_cons_zero, List.getD_cons_succ, List.set_cons_zero, List.set_cons_succ, List.map_cons, List.map_nil, List.length_cons, List.length_nil, List.cons_append, List.nil_append, List.replicate_succ, List.replicate_zero, Nat.reduceAdd, Nat.reduceSub, Nat.sub_self, ↓wz_lc2, ↓wz_lc2b, ↓wz_slJ, slF_i, slT_i, slB_i, slD_t, slD_l, lc2M_its, lc2M_l, lc2M_t, innL_its, innL_l, innL_t, isD_map, ↓wz_slF_int, ↓wz_slT_int, ↓wz_slB_int_int, ↓wz_slB_int_neg, ↓wz_slB_int_var, ↓wz_slB_int_bin, ↓wz_slB_int_ix, ↓wz_slF_neg, ↓wz_slT_neg, ↓wz_slB_neg_int, ↓wz_slB_neg_neg, ↓wz_slB_neg_var, ↓wz_slB_neg_bin, ↓wz_slB_neg_ix, ↓wz_slF_var, ↓wz_slT_var, ↓wz_slB_var_int, ↓wz_slB_var_neg, ↓wz_slB_var_var, ↓wz_slB_var_bin, ↓wz_slB_var_ix, ↓wz_slF_bin, ↓wz_slT_bin, ↓wz_slB_bin_int, ↓wz_slB_bin_neg, ↓wz_slB_bin_var, ↓wz_slB_bin_bin, ↓wz_slB_bin_ix, ↓wz_slF_ix, ↓wz_slT_ix, ↓wz_slB_ix_int, ↓wz_slB_ix_neg, ↓wz_slB_ix_var, ↓wz_slB_ix_bin, ↓wz_slB_ix_ix, ↓wz_slF_call, ↓wz_slT_call, ↓wz_slF_blt, ↓wz_slT_blt, ↓wz_lcn, ↓wz_lcc, ↓wz_forn, ↓wz_forc, consO_s, consO_n, forK_nx, forK_ct, forK_bk, forK_rt, c_isN, c_isnN, c_isT, c_isF, c_isnT, c_isnF, isNone_n, isNone_t, isNone_l, isNone_i, isNone_b, c_nel0, c_eql0, Bool.not_true, Bool.not_false, o_catL, o_catT, Nat.reduceLeDiff, ↓wz_mp, ↓wz_ms, layS_i, c_nes, c_eqs, b_gcd, take_all, and_self]
end
end Ob

set_option Elab.async false
set_option linter.all false
set_option maxRecDepth 100000
set_option maxHeartbeats 4000000
/-! sorting typed data; loops that draw, item by item; looking into tuples of integers -/
namespace Ob
open PySem PySem.Spec PyProof.Rows L2
section
open PySem.W
variable {α β : Type} [DecidableEq α] [DatumOrd α] [OrdOk α]
def dle (a b : α) : Bool := !DatumOrd.lt b a
theorem dle_iff {a b : α} : dle a b = true ↔ DatumOrd.lt b a = false := by simp [dle]
theorem dle_tr (a b c : α) (h1 : dle a b = true) (h2 : dle b c = true) : dle a c = true := dle_iff.mpr (le_tr (dle_iff.mp h1) (dle_iff.mp h2))
theorem dle_tot (a b : α) : (dle a b || dle b a) = true := by
  unfold dle
  cases e : DatumOrd.lt b a with
  | false => rfl
  | true => rw [lt_asym e]; rfl
def srtB (f : β → α) (l : List β) : List β := l.mergeSort fun a b => dle (f a) (f b)
theorem srtB_perm (f : β → α) (l : List β) : (srtB f l).Perm l := List.mergeSort_perm l _
theorem srtB_up (f : β → α) (l : List β) : (srtB f l).Pairwise fun a b => DatumOrd.lt (f b) (f a) = false :=
  (List.pairwise_mergeSort (le := fun a b => dle (f a) (f b)) (fun _ _ _ h1 h2 => dle_tr _ _ _ h1 h2) (fun _ _ => dle_tot _ _) l).imp fun h => dle_iff.mp h
theorem srtB_eq {f : β → α} (inj : ∀ a b, f a = f b → a = b) {l m : List β} (p : m.Perm l) (h : m.Pairwise fun a b => DatumOrd.lt (f b) (f a) = false) : srtB f l = m :=
  ((srtB_perm f l).trans p.symm).eq_of_pairwise (le := fun a b => DatumOrd.lt (f b) (f a) = false) (fun a b _ _ h1 h2 => inj a b (OrdOk.tot _ _ h2 h1)) (srtB_up f l) h
theorem b_sorted (f : β → α) (l : List β) (M : Ms) (hd : Datum.depth α ≤ 60) (hT : ((l.map fun b => Datum.toD (f b)).all isT1 || (l.map fun b => Datum.toD (f b)).all fun x => !isT x) = true) (hl : l.length ≤ 16777216) :
    callOp .sorted [.d (.list (l.map fun b => Datum.toD (f b)))] M = some (.list ((srtB f l).map fun b => Datum.toD (f b))) := by
  have h : sortB (l.map fun b => Datum.toD (f b)) = true := by
    have e : (l.map fun b => Datum.toD (f b)) = (l.map f).map Datum.toD := by rw [List.map_map]; rfl
    unfold sortB
    rw [hT, List.length_map, decide_eq_true hl, e, likes_map hd]
    rfl
  show bltn .sorted [.list (l.map fun b => Datum.toD (f b))] = _
  simp only [bltn, h, if_true]
  congr 2
  symm
  refine List.map_mergeSort fun a _ b _ => ?_
  show (!DatumOrd.lt (f b) (f a)) = (!dataLt (Datum.toD (f b)) (Datum.toD (f a)))
  rw [DatumOrd.lt_eq]
end
theorem sorted_i (l : List Int) (M : Ms) (hl : l.length ≤ 16777216) : callOp .sorted [.d (.list (l.map .int))] M = some (.list ((srtB id l).map .int)) :=
  b_sorted (id : Int → Int) l M (by decide) (by
    rw [Bool.or_eq_true]
    right
    rw [List.all_eq_true]
    intro x hx
    obtain ⟨a, _, rfl⟩ := List.mem_map.mp hx
    rfl) hl
theorem sorted_up {l m : List Int} (hm : m.Pairwise (· < ·)) (hl : l.Nodup) (h : ∀ x, x ∈ m ↔ x ∈ l) : srtB id l = m := by
  refine srtB_eq (fun _ _ e => e) ((List.perm_ext_iff_of_nodup (hm.imp fun h e => by omega) hl).mpr h) (hm.imp fun {a b} h => ?_)
  show decide (b < a) = false
  rw [decide_eq_false_iff_not]
  omega
theorem wp_false {α : Type} {r : Rs α} (h : WP r (Q := ⟨fun _ _ => False⟩)) : False := by
  obtain ⟨_, _, _, h⟩ := h
  exact h
def lixD (x y : D) (M : Ms) : Rs D := match x with
  | .d (.list ds) => lixM ds y M
  | _ => none
section
variable {call : Nat → List D → Ms → Rs D} {ρ : Rho} {M : Ms}
theorem wz_lix (i : Nat) (k : E) {Q : Pst D} (ds : List PyData) (h : ρ.getD i none = some (.d (.list ds))) : WP (ev call (.lix i k) ρ M) (Q := Q) = WP (ev call k ρ M) (Q := ⟨fun y M1 => WP (lixM ds y M1) (Q := Q)⟩) := by
  rw [e_lix i k ds h, WP_bind]
end
theorem WP.lix {call : Nat → List D → Ms → Rs D} {ρ : Rho} {M : Ms} {i : Nat} {k : E} {Q : Pst D} {ds : List PyData} (h : ρ.getD i none = some (.d (.list ds))) (q : WP (ev call k ρ M) (Q := ⟨fun y M1 => WP (lixM ds y M1) (Q := Q)⟩)) : WP (ev call (.lix i k) ρ M) (Q := Q) := by
  rw [wz_lix i k ds h]
  exact q
theorem canLay_ints (l : List Int) : PyData.canLayAll0 (l.map .int) = true := by
  induction l with
  | nil => rw [List.map_nil, PyData.canLayAll0]
  | cons a l ih => rw [List.map_cons, PyData.canLayAll0, ih, PyData.canLay0]; rfl
theorem shp_ints (l : List Int) : shp (.list (l.map .int)) = true := shp_of (by rw [PyData.canLay0]; exact canLay_ints l) (by
  rw [PyData.depth]
  have := depthAll_le (g := PyData.int) (l := l) (k := 0) fun a _ => by rw [PyData.depth]; omega
  omega)
theorem eqv_int (a b : Int) : PyData.eqv (.int a) (.int b) = decide (a = b) := by rw [PyData.eqv]; exact beqI a b
theorem lix_row {g : Int → Int} {b m j : Int} (M : Ms) (h0 : 0 ≤ j) (h1 : j < b) (hj : g j = m) (h : ∀ t, 0 ≤ t → t < j → g t ≠ m) : lixM ((irange 0 b).map fun t => .int (g t)) (.d (.int m)) M = Rs.ok (.d (.int j)) M := by
  have e : shp (.list ((irange 0 b).map fun t => .int (g t))) = true := by
    have := shp_ints ((irange 0 b).map g)
    rwa [List.map_map] at this
  have ef : ((irange 0 b).map fun t => PyData.int (g t)).findIdx? (fun z => PyData.eqv z (.int m)) = some j.toNat := by
    rw [List.findIdx?_eq_some_iff_getElem]
    have hl : j.toNat < ((irange 0 b).map fun t => PyData.int (g t)).length := by rw [List.length_map, irange_len]; omega
    have hg : ∀ (k : Nat) (hk : k < ((irange 0 b).map fun t => PyData.int (g t)).length), ((irange 0 b).map fun t => PyData.int (g t))[k] = .int (g (k : Nat)) := by
      intro k hk
      rw [List.length_map, irange_len] at hk
      have := irange_get (a := 0) (b := b) (i := k) hk
      rw [List.getElem?_eq_some_iff] at this
      obtain ⟨h2, h3⟩ := this
      rw [List.getElem_map, h3, Int.zero_add]
    refine ⟨hl, ?_, fun k hk => ?_⟩
    · rw [hg, eqv_int, decide_eq_true_eq, show ((j.toNat : Nat) : Int) = j by omega]
      exact hj
    · rw [hg, eqv_int, decide_eq_true_eq]
      exact h _ (by omega) (by omega)
  unfold lixM
  simp only [e, shp_int, Bool.and_self, if_true, ef]
  rw [show ((j.toNat : Nat) : Int) = j by omega]
theorem any_eqv (l : List Int) (k : Int) : (l.map PyData.int).any (fun z => PyData.eqv z (.int k)) = decide (k ∈ l) := by
  induction l with
  | nil => rfl
  | cons a l ih =>
    rw [List.map_cons, List.any_cons, ih, eqv_int]
    by_cases h : a = k
    · subst h; simp
    · have h' : ¬ k = a := fun e => h e.symm
      simp [h, h']
theorem shp_intsT (l : List Int) : shp (.tuple (l.map .int)) = true := shp_of (by rw [PyData.canLay0]; exact canLay_ints l) (Nat.le_trans (depth_ints l) (by decide))
theorem c_inT (l : List Int) (k : Int) (M : Ms) : cmpD .In (.d (.int k)) (.d (.tuple (l.map .int))) M = Rs.ok (.d (.bool (decide (k ∈ l)))) M := by
  unfold cmpD
  simp only [shp_int, shp_intsT, Bool.and_self, if_true, any_eqv]
theorem c_inL (l : List Int) (k : Int) (M : Ms) : cmpD .In (.d (.int k)) (.d (.list (l.map .int))) M = Rs.ok (.d (.bool (decide (k ∈ l)))) M := by
  unfold cmpD
  simp only [shp_int, shp_ints, Bool.and_self, if_true, any_eqv]
theorem c_ninT (l : List Int) (k : Int) (M : Ms) : cmpD .NotIn (.d (.int k)) (.d (.tuple (l.map .int))) M = Rs.ok (.d (.bool (!decide (k ∈ l)))) M := by
  unfold cmpD
  simp only [shp_int, shp_intsT, Bool.and_self, if_true, any_eqv]
theorem c_ninL (l : List Int) (k : Int) (M : Ms) : cmpD .NotIn (.d (.int k)) (.d (.list (l.map .int))) M = Rs.ok (.d (.bool (!decide (k ∈ l)))) M := by
  unfold cmpD
  simp only [shp_int, shp_ints, Bool.and_self, if_true, any_eqv]
/-- a comprehension that draws, item by item -/
theorem WP.lcLI {α : Type} {body : D → Ms → Rs (Option PyData)} {l : List α} {f : α → D} {M : Ms} {Q : Pst (List PyData)} (I : List α → List PyData → Ms → Prop) (h0 : I [] [] M)
    (step : ∀ l1 a l2 acc M, l = l1 ++ a :: l2 → I l1 acc M → WP (body (f a) M) (Q := ⟨fun o M' => I (l1 ++ [a]) (acc ++ consO o []) M'⟩))
    (done : ∀ ys M, I l ys M → Q.q ys M) : WP (lcLoop body (l.map f) M) (Q := Q) := by
  refine WP.lcI (fun i => I (l.take i)) (by simpa using h0) (fun i x acc M hx hi => ?_) (fun ys M h => done ys M (by simpa using h))
  rw [List.getElem?_map, Option.map_eq_some_iff] at hx
  obtain ⟨a, ha, rfl⟩ := hx
  obtain ⟨hi2, rfl⟩ := List.getElem?_eq_some_iff.mp ha
  have e : l.take (i + 1) = l.take i ++ [l[i]] := (List.take_append_getElem hi2).symm
  rw [e]
  exact step (l.take i) l[i] (l.drop (i + 1)) acc M (by rw [← List.drop_eq_getElem_cons, List.take_append_drop]) hi
theorem nums_map {α : Type} (f : α → PyData) : ∀ (l : List α) (k : Nat), nums k (l.map f) = (l.zipIdx k).map fun q => D.d (.tuple [.int (q.2 : Nat), f q.1])
  | [], k => by simp [nums]
  | a :: l, k => by rw [List.map_cons, nums, nums_map f l (k + 1), List.zipIdx_cons, List.map_cons]
theorem enm_l {xs : List PyData} (M : Ms) (h : xs.length ≤ 16777216) : enmM (.d (.list xs)) M = Rs.ok (.its (nums 0 xs)) M := by
  unfold enmM
  simp only [line_leq h, if_true]
end Ob

set_option Elab.async false
set_option linter.all false
set_option maxRecDepth 100000
set_option maxHeartbeats 8000000
namespace Lk78
open PySem PySem.Spec PyProof.Rows L2 Ob
def f_is_whole : Fd := { name := "is_whole", ps := ["value", "low", "high"], N := ["value", "low", "high"], nw := false, body :=
    (.cons (.ret (.conj (.isi (.var 0) .int) (.conj (.not (.isi (.var 0) .bool)) (.cmp2 .LtE .LtE (.var 1) (.var 0) (.var 2)))))
    .nil) }
def f_is_tuple_of : Fd := { name := "is_tuple_of", ps := ["value", "low", "high"], N := ["value", "low", "high"], nw := false, body :=
    (.cons (.ret (.conj (.isi (.var 0) .tuple) (.cmp2 .LtE .LtE (.var 1) (.blt .len (.cons (.var 0) .nil)) (.var 2))))
    .nil) }
def f_is_rising : Fd := { name := "is_rising", ps := ["value"], N := ["value", "one", "other"], nw := false, body :=
    (.cons (.ret (.blt .all (.cons (.lc (.cmp .Lt (.var 1) (.var 2)) (.tp (.cons (.nm 1) (.cons (.nm 2) .nil))) (.zip (.cons (.var 0) (.cons (.slc (.var 0) (.int 1) .nop) .nil))) .nop [1, 2]) .nil)))
    .nil) }
def f_fits_some : Fd := { name := "fits_some", ps := ["many", "value"], N := ["many", "value", "one"], nw := false, body :=
    (.cons (.ret (.conj (.call 1 (.cons (.var 1) (.cons (.int 0) (.cons (.var 0) .nil)))) (.conj (.blt .all (.cons (.lc (.call 0 (.cons (.var 2) (.cons (.int 0) (.cons (.bin .Sub (.var 0) (.int 1)) .nil)))) (.nm 2) (.var 1) .nop [2]) .nil)) (.call 2 (.cons (.var 1) .nil)))))
    .nil) }
def f_fits_star : Fd := { name := "fits_star", ps := ["value"], N := ["value"], nw := false, body :=
    (.cons (.ret (.conj (.call 1 (.cons (.var 0) (.cons (.int 2) (.cons (.int 2) .nil)))) (.conj (.call 0 (.cons (.ix (.var 0) (.int 0)) (.cons (.int 0) (.cons (.bin .Sub (.gi "RING" (360)) (.int 1)) .nil)))) (.call 0 (.cons (.ix (.var 0) (.int 1)) (.cons (.int 1) (.cons (.gi "BRIGHT" (9)) .nil)))))))
    .nil) }
def f_fits_sky : Fd := { name := "fits_sky", ps := ["value"], N := ["value", "place", "bright", "one"], nw := false, body :=
    (.cons (.ifs (.disj (.not (.call 1 (.cons (.var 0) (.cons (.int 1) (.cons (.gi "STARS" (24)) .nil))))) (.not (.blt .all (.cons (.lc (.call 4 (.cons (.var 3) .nil)) (.nm 3) (.var 0) .nop [3]) .nil))))
    (.cons (.ret (.bl false))
    .nil)
    .nil)
    (.cons (.ret (.call 2 (.cons (.blt .tuple (.cons (.lc (.var 1) (.tp (.cons (.nm 1) (.cons (.nm 2) .nil))) (.var 0) .nop [1, 2]) .nil)) .nil)))
    .nil)) }
def f_need_sky : Fd := { name := "need_sky", ps := ["sky"], N := ["sky"], nw := false, body :=
    (.cons (.ifs (.not (.call 5 (.cons (.var 0) .nil)))
    (.cons .nev
    .nil)
    .nil)
    .nil) }
def f_need_step : Fd := { name := "need_step", ps := ["step"], N := ["step"], nw := false, body :=
    (.cons (.ifs (.not (.call 0 (.cons (.var 0) (.cons (.int 0) (.cons (.bin .Sub (.gi "RING" (360)) (.int 1)) .nil)))))
    (.cons .nev
    .nil)
    .nil)
    .nil) }
def f_height_in : Fd := { name := "height_in", ps := ["sky", "star", "step"], N := ["sky", "star", "step", "at"], nw := false, body :=
    (.cons (.asg (.nm 3) (.bin .Mod (.bin .Add (.ix (.ix (.var 0) (.var 1)) (.int 0)) (.var 2)) (.gi "RING" (360))))
    (.cons (.ret (.ite (.cmp .LtE (.var 3) (.int 90)) (.var 3) (.ite (.cmp .LtE (.var 3) (.int 270)) (.bin .Sub (.gi "HALF" (180)) (.var 3)) (.bin .Sub (.var 3) (.gi "RING" (360))))))
    .nil)) }
def f_need_slack : Fd := { name := "need_slack", ps := ["slack"], N := ["slack"], nw := false, body :=
    (.cons (.ifs (.not (.call 0 (.cons (.var 0) (.cons (.int 0) (.cons (.bin .Mult (.int 2) (.gi "HIGH" (90))) .nil)))))
    (.cons .nev
    .nil)
    .nil)
    .nil) }
def f_fits_seen : Fd := { name := "fits_seen", ps := ["sky", "value"], N := ["sky", "value", "one"], nw := false, body :=
    (.cons (.ifs (.disj (.not (.call 1 (.cons (.var 1) (.cons (.int 1) (.cons (.blt .len (.cons (.var 0) .nil)) .nil))))) (.not (.blt .all (.cons (.lc (.call 1 (.cons (.var 2) (.cons (.int 2) (.cons (.int 2) .nil)))) (.nm 2) (.var 1) .nop [2]) .nil))))
    (.cons (.ret (.bl false))
    .nil)
    .nil)
    (.cons (.ifs (.not (.blt .all (.cons (.lc (.call 0 (.cons (.ix (.var 2) (.int 1)) (.cons (.neg (.gi "HIGH" (90))) (.cons (.gi "HIGH" (90)) .nil)))) (.nm 2) (.var 1) .nop [2]) .nil)))
    (.cons (.ret (.bl false))
    .nil)
    .nil)
    (.cons (.ret (.call 3 (.cons (.blt .len (.cons (.var 0) .nil)) (.cons (.blt .tuple (.cons (.lc (.ix (.var 2) (.int 0)) (.nm 2) (.var 1) .nop [2]) .nil)) .nil))))
    .nil))) }
def f_need_seen : Fd := { name := "need_seen", ps := ["sky", "seen"], N := ["sky", "seen"], nw := false, body :=
    (.cons (.ex (.call 6 (.cons (.var 0) .nil)))
    (.cons (.ifs (.not (.call 10 (.cons (.var 0) (.cons (.var 1) .nil))))
    (.cons .nev
    .nil)
    .nil)
    .nil)) }
def f_need_lot : Fd := { name := "need_lot", ps := ["sky", "some"], N := ["sky", "some"], nw := false, body :=
    (.cons (.ex (.call 6 (.cons (.var 0) .nil)))
    (.cons (.ifs (.not (.call 3 (.cons (.blt .len (.cons (.var 0) .nil)) (.cons (.var 1) .nil))))
    (.cons .nev
    .nil)
    .nil)
    .nil)) }
def f_off_at : Fd := { name := "off_at", ps := ["sky", "seen", "step"], N := ["sky", "seen", "step", "star", "high"], nw := false, body :=
    (.cons (.ret (.blt .max (.cons (.lc (.blt .abs (.cons (.bin .Sub (.call 8 (.cons (.var 0) (.cons (.var 3) (.cons (.var 2) .nil)))) (.var 4)) .nil)) (.tp (.cons (.nm 3) (.cons (.nm 4) .nil))) (.var 1) .nop [3, 4]) .nil)))
    .nil) }
def f_heights : Fd := { name := "heights", ps := ["sky", "some", "step"], N := ["sky", "some", "step", "star"], nw := false, body :=
    (.cons (.ex (.call 12 (.cons (.var 0) (.cons (.var 1) .nil))))
    (.cons (.ex (.call 7 (.cons (.var 2) .nil)))
    (.cons (.ret (.blt .tuple (.cons (.lc (.tup (.cons (.var 3) (.cons (.call 8 (.cons (.var 0) (.cons (.var 3) (.cons (.var 2) .nil)))) .nil))) (.nm 3) (.var 1) .nop [3]) .nil)))
    .nil))) }
def f_told_steps : Fd := { name := "told_steps", ps := ["sky", "seen", "slack"], N := ["sky", "seen", "slack", "step"], nw := false, body :=
    (.cons (.ex (.call 11 (.cons (.var 0) (.cons (.var 1) .nil))))
    (.cons (.ex (.call 9 (.cons (.var 2) .nil)))
    (.cons (.ret (.blt .tuple (.cons (.lc (.var 3) (.nm 3) (.rng (.cons (.gi "RING" (360)) .nil)) (.cmp .LtE (.call 13 (.cons (.var 0) (.cons (.var 1) (.cons (.var 3) .nil)))) (.var 2)) [3]) .nil)))
    .nil))) }
def f_best_step : Fd := { name := "best_step", ps := ["sky", "seen"], N := ["sky", "seen", "step"], nw := false, body :=
    (.cons (.ex (.call 11 (.cons (.var 0) (.cons (.var 1) .nil))))
    (.cons (.ret (.blt .min (.cons (.lc (.tup (.cons (.call 13 (.cons (.var 0) (.cons (.var 1) (.cons (.var 2) .nil)))) (.cons (.var 2) .nil))) (.nm 2) (.rng (.cons (.gi "RING" (360)) .nil)) .nop [2]) .nil)))
    .nil)) }
def f__law_cup : Fd := { name := "_law_cup", ps := ["script"], N := ["script", "cell"], nw := true, body :=
    (.cons (.asg (.nm 1) (.blt .abs (.cons (.ix (.bin .Add (.blt .list (.cons (.var 0) .nil)) (.lst (.cons (.int 0) .nil))) (.int 0)) .nil)))
    (.cons (.retL (.lst (.cons (.ite (.cmp .GtE (.var 1) (.bin .Pow (.int 10) (.int 18))) (.bin .FloorDiv (.var 1) (.int 97)) (.int 0)) (.cons (.bin .Add (.bin .Mod (.blt .int (.cons (.bin .Add (.bin .Mult (.var 1) (.int 337)) (.int 4051)) .nil)) (.int 2077495185)) (.int 179)) .nil))))
    .nil)) }
def f__law_roll : Fd := { name := "_law_roll", ps := ["cup", "many"], N := ["cup", "many", "deep", "found"], nw := false, body :=
    (.cons (.ifs (.cmp .Gt (.ix (.var 0) (.int 0)) (.int 0))
    (.cons (.asg (.nm 3) (.bin .Mod (.blt .int (.cons (.ix (.var 0) (.int 0)) .nil)) (.var 1)))
    (.cons (.put 0 (.int 0) (.bin .FloorDiv (.ix (.var 0) (.int 0)) (.var 1)))
    (.cons (.ret (.var 3))
    .nil)))
    .nil)
    (.cons (.put 0 (.int 1) (.bin .Mod (.blt .int (.cons (.bin .Add (.bin .Mult (.ix (.var 0) (.int 1)) (.int 30931)) (.int 7907)) .nil)) (.int 2147483399)))
    (.cons (.asg (.nm 2) (.bin .Mod (.blt .int (.cons (.bin .Mult (.ix (.var 0) (.int 1)) (.bin .Add (.ix (.var 0) (.int 1)) (.int 251))) .nil)) (.int 2147483563)))
    (.cons (.ret (.bin .Mod (.blt .int (.cons (.bin .FloorDiv (.var 2) (.int 829)) .nil)) (.var 1)))
    .nil)))) }
def f__law_some : Fd := { name := "_law_some", ps := ["cup", "things"], N := ["cup", "things"], nw := false, body :=
    (.cons (.ret (.ix (.var 1) (.call 18 (.cons (.var 0) (.cons (.blt .len (.cons (.var 1) .nil)) .nil)))))
    .nil) }
def f__law_same : Fd := { name := "_law_same", ps := ["told", "due"], N := ["told", "due", "at"], nw := false, body :=
    (.cons (.ifs (.isi (.var 1) .tuple)
    (.cons (.ifs (.disj (.not (.isi (.var 0) .tuple)) (.cmp .NotEq (.blt .len (.cons (.var 0) .nil)) (.blt .len (.cons (.var 1) .nil))))
    (.cons (.ret (.bl false))
    .nil)
    .nil)
    (.cons (.ret (.blt .all (.cons (.lc (.call 20 (.cons (.ix (.var 0) (.var 2)) (.cons (.ix (.var 1) (.var 2)) .nil))) (.nm 2) (.rng (.cons (.blt .len (.cons (.var 1) .nil)) .nil)) .nop [2]) .nil)))
    .nil))
    .nil)
    (.cons (.ifs (.cmp .Is (.var 1) .non)
    (.cons (.ret (.cmp .Is (.var 0) .non))
    .nil)
    .nil)
    (.cons (.ifs (.isi (.var 1) .bool)
    (.cons (.ret (.ite (.var 1) (.cmp .Is (.var 0) (.bl true)) (.cmp .Is (.var 0) (.bl false))))
    .nil)
    .nil)
    (.cons (.ifs (.isi (.var 1) .int)
    (.cons (.ret (.conj (.isi (.var 0) .int) (.conj (.not (.isi (.var 0) .bool)) (.cmp .Eq (.blt .int (.cons (.var 0) .nil)) (.var 1)))))
    .nil)
    .nil)
    (.cons (.ret (.conj (.isi (.var 0) .str) (.cmp .Eq (.blt .str (.cons (.var 0) .nil)) (.var 1))))
    .nil))))) }
def f__law_sky : Fd := { name := "_law_sky", ps := ["cup", "stars"], N := ["cup", "stars", "first", "wide", "found", "turn", "place"], nw := false, body :=
    (.cons (.par [(2, .v), (3, .v), (4, .k)] (.cons (.call 18 (.cons (.var 0) (.cons (.int 360) .nil))) (.cons (.call 19 (.cons (.var 0) (.cons (.lst (.cons (.int 10) (.cons (.int 90) (.cons (.int 360) .nil)))) .nil))) (.cons (.dct .nil .nil) .nil))))
    (.cons (.fors (.nm 5) (.rng (.cons (.bin .Add (.int 1) (.call 18 (.cons (.var 0) (.cons (.var 1) .nil)))) .nil))
    (.cons (.put 4 (.bin .Mod (.blt .int (.cons (.bin .Add (.var 2) (.call 18 (.cons (.var 0) (.cons (.var 3) .nil)))) .nil)) (.int 360)) (.bin .Add (.int 1) (.call 18 (.cons (.var 0) (.cons (.call 19 (.cons (.var 0) (.cons (.lst (.cons (.int 2) (.cons (.int 9) .nil))) .nil))) .nil)))))
    .nil))
    (.cons (.ret (.blt .tuple (.cons (.lc (.tup (.cons (.var 6) (.cons (.ix (.var 4) (.var 6)) .nil))) (.nm 6) (.blt .sorted (.cons (.var 4) .nil)) .nop [6]) .nil)))
    .nil))) }
def f__law_height : Fd := { name := "_law_height", ps := ["sky", "star", "step"], N := ["sky", "star", "step", "at"], nw := false, body :=
    (.cons (.asg (.nm 3) (.bin .Mod (.blt .int (.cons (.bin .Add (.ix (.ix (.var 0) (.var 1)) (.int 0)) (.var 2)) .nil)) (.int 360)))
    (.cons (.ifs (.cmp .Gt (.var 3) (.int 270))
    (.cons (.ret (.bin .Sub (.var 3) (.int 360)))
    .nil)
    .nil)
    (.cons (.ret (.blt .min2 (.cons (.var 3) (.cons (.bin .Sub (.int 180) (.var 3)) .nil))))
    .nil))) }
def f_law : Fd := { name := "law", ps := ["script"], N := ["script", "cup", "turn", "place", "high", "up", "down", "sky", "many", "step", "some", "seen", "offs", "slack", "true", "by", "rows", "turned", "sight", "at", "star", "bright", "row", "more"], nw := false, body :=
    (.cons (.new 1 .l (.call 17 (.cons (.var 0) .nil)))
    (.cons (.fors (.nm 2) (.rng (.cons (.int 5) .nil))
    (.cons (.asg (.nm 7) (.call 21 (.cons (.var 1) (.cons (.int 8) .nil))))
    (.cons (.par [(8, .v), (9, .v)] (.cons (.blt .len (.cons (.var 7) .nil)) (.cons (.call 18 (.cons (.var 1) (.cons (.int 360) .nil))) .nil)))
    (.cons (.asg (.nm 10) (.blt .tuple (.cons (.sst (.lc (.call 18 (.cons (.var 1) (.cons (.var 8) .nil))) (.nm 23) (.rng (.cons (.bin .Add (.int 1) (.call 18 (.cons (.var 1) (.cons (.int 4) .nil)))) .nil)) .nop [23])) .nil)))
    (.cons (.asg (.nm 11) (.blt .tuple (.cons (.lc (.tup (.cons (.var 20) (.cons (.blt .max2 (.cons (.neg (.int 90)) (.cons (.blt .min2 (.cons (.int 90) (.cons (.bin .Add (.var 4) (.call 18 (.cons (.var 1) (.cons (.call 19 (.cons (.var 1) (.cons (.lst (.cons (.int 1) (.cons (.int 3) (.cons (.int 30) .nil)))) .nil))) .nil)))) .nil))) .nil))) .nil))) (.tp (.cons (.nm 20) (.cons (.nm 4) .nil))) (.call 14 (.cons (.var 7) (.cons (.var 10) (.cons (.var 9) .nil)))) .nop [20, 4]) .nil)))
    (.cons (.asg (.nm 12) (.lc (.blt .max (.cons (.lc (.blt .abs (.cons (.bin .Sub (.call 22 (.cons (.var 7) (.cons (.var 20) (.cons (.var 19) .nil)))) (.var 4)) .nil)) (.tp (.cons (.nm 20) (.cons (.nm 4) .nil))) (.var 11) .nop [20, 4]) .nil)) (.nm 19) (.rng (.cons (.int 360) .nil)) .nop [19]))
    (.cons (.ifs (.not (.call 20 (.cons (.call 16 (.cons (.var 7) (.cons (.var 11) .nil))) (.cons (.tup (.cons (.blt .min (.cons (.var 12) .nil)) (.cons (.lix 12 (.blt .min (.cons (.var 12) .nil))) .nil))) .nil))))
    (.cons (.ret (.bl false))
    .nil)
    .nil)
    (.cons (.fors (.nm 13) (.tup (.cons (.int 0) (.cons (.blt .min (.cons (.var 12) .nil)) (.cons (.bin .Add (.blt .min (.cons (.var 12) .nil)) (.call 18 (.cons (.var 1) (.cons (.int 20) .nil)))) (.cons (.int 180) .nil)))))
    (.cons (.ifs (.not (.call 20 (.cons (.call 15 (.cons (.var 7) (.cons (.var 11) (.cons (.var 13) .nil)))) (.cons (.blt .tuple (.cons (.lc (.var 19) (.nm 19) (.rng (.cons (.int 360) .nil)) (.cmp .LtE (.ix (.var 12) (.var 19)) (.var 13)) [19]) .nil)) .nil))))
    (.cons (.ret (.bl false))
    .nil)
    .nil)
    .nil))
    (.cons (.asg (.nm 14) (.call 14 (.cons (.var 7) (.cons (.var 10) (.cons (.var 9) .nil)))))
    (.cons (.ifs (.disj (.cmp .NotIn (.var 9) (.call 15 (.cons (.var 7) (.cons (.var 14) (.cons (.int 0) .nil))))) (.disj (.cmp .NotEq (.ix (.call 16 (.cons (.var 7) (.cons (.var 14) .nil))) (.int 0)) (.int 0)) (.disj (.cmp .Gt (.blt .len (.cons (.call 15 (.cons (.var 7) (.cons (.var 14) (.cons (.int 0) .nil)))) .nil)) (.int 2)) (.cmp .NotEq (.blt .len (.cons (.call 15 (.cons (.var 7) (.cons (.var 11) (.cons (.int 180) .nil)))) .nil)) (.int 360)))))
    (.cons (.ret (.bl false))
    .nil)
    .nil)
    (.cons (.asg (.nm 15) (.call 18 (.cons (.var 1) (.cons (.int 360) .nil))))
    (.cons (.ifs (.cmp .Eq (.blt .len (.cons (.var 10) .nil)) (.var 8))
    (.cons (.asg (.nm 16) (.blt .sorted (.cons (.lc (.tup (.cons (.bin .Mod (.blt .int (.cons (.bin .Add (.var 3) (.var 15)) .nil)) (.int 360)) (.cons (.var 21) (.cons (.var 4) .nil)))) (.tp (.cons (.tp (.cons (.nm 3) (.cons (.nm 21) .nil))) (.cons (.tp (.cons (.nm 20) (.cons (.nm 4) .nil))) .nil))) (.zip (.cons (.var 7) (.cons (.var 11) .nil))) .nop [3, 21, 20, 4]) .nil)))
    (.cons (.asg (.nm 17) (.blt .tuple (.cons (.lc (.slc (.var 22) .nop (.int 2)) (.nm 22) (.var 16) .nop [22]) .nil)))
    (.cons (.asg (.nm 18) (.blt .tuple (.cons (.lc (.tup (.cons (.var 20) (.cons (.ix (.var 22) (.int 2)) .nil))) (.tp (.cons (.nm 20) (.cons (.nm 22) .nil))) (.enm (.var 16)) .nop [20, 22]) .nil)))
    (.cons (.ifs (.cmp .NotEq (.call 15 (.cons (.var 17) (.cons (.var 18) (.cons (.int 5) .nil)))) (.blt .tuple (.cons (.blt .sorted (.cons (.lc (.bin .Mod (.blt .int (.cons (.bin .Sub (.bin .Add (.var 19) (.int 360)) (.var 15)) .nil)) (.int 360)) (.nm 19) (.call 15 (.cons (.var 7) (.cons (.var 11) (.cons (.int 5) .nil)))) .nop [19]) .nil)) .nil)))
    (.cons (.ret (.bl false))
    .nil)
    .nil)
    .nil))))
    .nil)
    .nil))))))))))))
    (.cons (.par [(3, .v), (4, .v)] (.cons (.call 18 (.cons (.var 1) (.cons (.int 360) .nil))) (.cons (.bin .Sub (.call 18 (.cons (.var 1) (.cons (.int 179) .nil))) (.int 89)) .nil)))
    (.cons (.par [(5, .v), (6, .v)] (.cons (.bin .Mod (.blt .int (.cons (.bin .Sub (.bin .Add (.var 4) (.int 360)) (.var 3)) .nil)) (.int 360)) (.cons (.bin .Mod (.blt .int (.cons (.bin .Sub (.bin .Add (.bin .Sub (.int 180) (.var 4)) (.int 360)) (.var 3)) .nil)) (.int 360)) .nil)))
    (.cons (.ret (.call 20 (.cons (.call 15 (.cons (.tup (.cons (.tup (.cons (.var 3) (.cons (.int 1) .nil))) .nil)) (.cons (.tup (.cons (.tup (.cons (.int 0) (.cons (.var 4) .nil))) .nil)) (.cons (.int 0) .nil)))) (.cons (.blt .tuple (.cons (.blt .sorted (.cons (.lst (.cons (.var 5) (.cons (.var 6) .nil))) .nil)) .nil)) .nil))))
    .nil))))) }
def fns : List Fd := [f_is_whole, f_is_tuple_of, f_is_rising, f_fits_some, f_fits_star, f_fits_sky, f_need_sky, f_need_step, f_height_in, f_need_slack, f_fits_seen, f_need_seen, f_need_lot, f_off_at, f_heights, f_told_steps, f_best_step, f__law_cup, f__law_roll, f__law_some, f__law_same, f__law_sky, f__law_height, f_law]
def tab : Tab := { fns := fns, consts := [("RING", 360), ("HALF", 180), ("STARS", 24), ("BRIGHT", 9), ("HIGH", 90)], gcd := false }
def top (i : Nat) : Stmt := PySem.Challenge.pw_observatory_k78_whole_steps_told_by_heig.main.body.getD i (.Pass ⟨0, 0, 0, 0⟩)
theorem sc_is_whole : FnScope f_is_whole.N f_is_whole.ps (defScope (top 10)) := ⟨rfl, rfl, rfl, by decide +kernel, rfl, by decide +kernel, by decide +kernel⟩
theorem mt_is_whole : mtSs tab f_is_whole.N (defScope (top 10)) f_is_whole.body (defBody (top 10)) = true := by decide +kernel
theorem sc_is_tuple_of : FnScope f_is_tuple_of.N f_is_tuple_of.ps (defScope (top 11)) := ⟨rfl, rfl, rfl, by decide +kernel, rfl, by decide +kernel, by decide +kernel⟩
theorem mt_is_tuple_of : mtSs tab f_is_tuple_of.N (defScope (top 11)) f_is_tuple_of.body (defBody (top 11)) = true := by decide +kernel
theorem sc_is_rising : FnScope f_is_rising.N f_is_rising.ps (defScope (top 12)) := ⟨rfl, rfl, rfl, by decide +kernel, rfl, by decide +kernel, by decide +kernel⟩
theorem mt_is_rising : mtSs tab f_is_rising.N (defScope (top 12)) f_is_rising.body (defBody (top 12)) = true := by decide +kernel
theorem sc_fits_some : FnScope f_fits_some.N f_fits_some.ps (defScope (top 13)) := ⟨rfl, rfl, rfl, by decide +kernel, rfl, by decide +kernel, by decide +kernel⟩
theorem mt_fits_some : mtSs tab f_fits_some.N (defScope (top 13)) f_fits_some.body (defBody (top 13)) = true := by decide +kernel
theorem sc_fits_star : FnScope f_fits_star.N f_fits_star.ps (defScope (top 14)) := ⟨rfl, rfl, rfl, by decide +kernel, rfl, by decide +kernel, by decide +kernel⟩
theorem mt_fits_star : mtSs tab f_fits_star.N (defScope (top 14)) f_fits_star.body (defBody (top 14)) = true := by decide +kernel
theorem sc_fits_sky : FnScope f_fits_sky.N f_fits_sky.ps (defScope (top 15)) := ⟨rfl, rfl, rfl, by decide +kernel, rfl, by decide +kernel, by decide +kernel⟩
theorem mt_fits_sky : mtSs tab f_fits_sky.N (defScope (top 15)) f_fits_sky.body (defBody (top 15)) = true := by decide +kernel
theorem sc_need_sky : FnScope f_need_sky.N f_need_sky.ps (defScope (top 16)) := ⟨rfl, rfl, rfl, by decide +kernel, rfl, by decide +kernel, by decide +kernel⟩
theorem mt_need_sky : mtSs tab f_need_sky.N (defScope (top 16)) f_need_sky.body (defBody (top 16)) = true := by decide +kernel
theorem sc_need_step : FnScope f_need_step.N f_need_step.ps (defScope (top 17)) := ⟨rfl, rfl, rfl, by decide +kernel, rfl, by decide +kernel, by decide +kernel⟩
theorem mt_need_step : mtSs tab f_need_step.N (defScope (top 17)) f_need_step.body (defBody (top 17)) = true := by decide +kernel
theorem sc_height_in : FnScope f_height_in.N f_height_in.ps (defScope (top 18)) := ⟨rfl, rfl, rfl, by decide +kernel, rfl, by decide +kernel, by decide +kernel⟩
theorem mt_height_in : mtSs tab f_height_in.N (defScope (top 18)) f_height_in.body (defBody (top 18)) = true := by decide +kernel
theorem sc_need_slack : FnScope f_need_slack.N f_need_slack.ps (defScope (top 21)) := ⟨rfl, rfl, rfl, by decide +kernel, rfl, by decide +kernel, by decide +kernel⟩
theorem mt_need_slack : mtSs tab f_need_slack.N (defScope (top 21)) f_need_slack.body (defBody (top 21)) = true := by decide +kernel
theorem sc_fits_seen : FnScope f_fits_seen.N f_fits_seen.ps (defScope (top 22)) := ⟨rfl, rfl, rfl, by decide +kernel, rfl, by decide +kernel, by decide +kernel⟩
theorem mt_fits_seen : mtSs tab f_fits_seen.N (defScope (top 22)) f_fits_seen.body (defBody (top 22)) = true := by decide +kernel
theorem sc_need_seen : FnScope f_need_seen.N f_need_seen.ps (defScope (top 23)) := ⟨rfl, rfl, rfl, by decide +kernel, rfl, by decide +kernel, by decide +kernel⟩
theorem mt_need_seen : mtSs tab f_need_seen.N (defScope (top 23)) f_need_seen.body (defBody (top 23)) = true := by decide +kernel
theorem sc_need_lot : FnScope f_need_lot.N f_need_lot.ps (defScope (top 24)) := ⟨rfl, rfl, rfl, by decide +kernel, rfl, by decide +kernel, by decide +kernel⟩
theorem mt_need_lot : mtSs tab f_need_lot.N (defScope (top 24)) f_need_lot.body (defBody (top 24)) = true := by decide +kernel
theorem sc_off_at : FnScope f_off_at.N f_off_at.ps (defScope (top 25)) := ⟨rfl, rfl, rfl, by decide +kernel, rfl, by decide +kernel, by decide +kernel⟩
theorem mt_off_at : mtSs tab f_off_at.N (defScope (top 25)) f_off_at.body (defBody (top 25)) = true := by decide +kernel
theorem sc_heights : FnScope f_heights.N f_heights.ps (defScope (top 26)) := ⟨rfl, rfl, rfl, by decide +kernel, rfl, by decide +kernel, by decide +kernel⟩
theorem mt_heights : mtSs tab f_heights.N (defScope (top 26)) f_heights.body (defBody (top 26)) = true := by decide +kernel
theorem sc_told_steps : FnScope f_told_steps.N f_told_steps.ps (defScope (top 27)) := ⟨rfl, rfl, rfl, by decide +kernel, rfl, by decide +kernel, by decide +kernel⟩
theorem mt_told_steps : mtSs tab f_told_steps.N (defScope (top 27)) f_told_steps.body (defBody (top 27)) = true := by decide +kernel
theorem sc_best_step : FnScope f_best_step.N f_best_step.ps (defScope (top 28)) := ⟨rfl, rfl, rfl, by decide +kernel, rfl, by decide +kernel, by decide +kernel⟩
theorem mt_best_step : mtSs tab f_best_step.N (defScope (top 28)) f_best_step.body (defBody (top 28)) = true := by decide +kernel
theorem sc__law_cup : FnScope f__law_cup.N f__law_cup.ps (defScope (top 30)) := ⟨rfl, rfl, rfl, by decide +kernel, rfl, by decide +kernel, by decide +kernel⟩
theorem mt__law_cup : mtSs tab f__law_cup.N (defScope (top 30)) f__law_cup.body (defBody (top 30)) = true := by decide +kernel
theorem sc__law_roll : FnScope f__law_roll.N f__law_roll.ps (defScope (top 31)) := ⟨rfl, rfl, rfl, by decide +kernel, rfl, by decide +kernel, by decide +kernel⟩
theorem mt__law_roll : mtSs tab f__law_roll.N (defScope (top 31)) f__law_roll.body (defBody (top 31)) = true := by decide +kernel
theorem sc__law_some : FnScope f__law_some.N f__law_some.ps (defScope (top 32)) := ⟨rfl, rfl, rfl, by decide +kernel, rfl, by decide +kernel, by decide +kernel⟩
theorem mt__law_some : mtSs tab f__law_some.N (defScope (top 32)) f__law_some.body (defBody (top 32)) = true := by decide +kernel
theorem sc__law_same : FnScope f__law_same.N f__law_same.ps (defScope (top 33)) := ⟨rfl, rfl, rfl, by decide +kernel, rfl, by decide +kernel, by decide +kernel⟩
theorem mt__law_same : mtSs tab f__law_same.N (defScope (top 33)) f__law_same.body (defBody (top 33)) = true := by decide +kernel
theorem sc__law_sky : FnScope f__law_sky.N f__law_sky.ps (defScope (top 34)) := ⟨rfl, rfl, rfl, by decide +kernel, rfl, by decide +kernel, by decide +kernel⟩
theorem mt__law_sky : mtSs tab f__law_sky.N (defScope (top 34)) f__law_sky.body (defBody (top 34)) = true := by decide +kernel
theorem sc__law_height : FnScope f__law_height.N f__law_height.ps (defScope (top 35)) := ⟨rfl, rfl, rfl, by decide +kernel, rfl, by decide +kernel, by decide +kernel⟩
theorem mt__law_height : mtSs tab f__law_height.N (defScope (top 35)) f__law_height.body (defBody (top 35)) = true := by decide +kernel
theorem sc_law : FnScope f_law.N f_law.ps (defScope (top 36)) := ⟨rfl, rfl, rfl, by decide +kernel, rfl, by decide +kernel, by decide +kernel⟩
theorem mt_law : mtSs tab f_law.N (defScope (top 36)) f_law.body (defBody (top 36)) = true := by decide +kernel
end Lk78

set_option Elab.async false
set_option linter.all false
set_option maxRecDepth 100000
set_option maxHeartbeats 4000000
namespace Lk78
open PySem Ob
/-! skies: their lengths and places -/
def slen (sk : List (Int × Int)) : Int := sk.length
def plc (sk : List (Int × Int)) (s : Int) : Int := (sk.getD s.toNat (0, 0)).1
def brt (sk : List (Int × Int)) (s : Int) : Int := (sk.getD s.toNat (0, 0)).2
theorem len_sky (sk : List (Int × Int)) (M : Ms) : callOp .len [.d (skyD sk)] M = some (.int (slen sk)) := by
  unfold skyD slen
  rw [b_lenT, List.length_map]
theorem get_sky {sk : List (Int × Int)} {s : Int} (h0 : 0 ≤ s) (h : s < slen sk) : sk[s.toNat]? = some (plc sk s, brt sk s) := by
  unfold slen at h
  have h : s.toNat < sk.length := by omega
  unfold plc brt
  rw [List.getD_eq_getElem?_getD, List.getElem?_eq_getElem h]
  rfl
theorem ix_sky {sk : List (Int × Int)} {s : Int} (M : Ms) (h0 : 0 ≤ s) (h : s < slen sk) : ixD (.d (skyD sk)) (.d (.int s)) M = Rs.ok (.d (.tuple [.int (plc sk s), .int (brt sk s)])) M := by
  unfold skyD
  refine ix_tz M h0 ?_
  rw [List.getElem?_map, get_sky h0 h]
  rfl
theorem plc_ok {n : Nat} {sk : List (Int × Int)} (h : Sky n sk) {s : Int} (h0 : 0 ≤ s) (h1 : s < slen sk) : 0 ≤ plc sk s ∧ plc sk s < 360 ∧ 1 ≤ brt sk s ∧ brt sk s ≤ 9 := by
  have := List.mem_of_getElem? (get_sky h0 h1)
  exact h.ok _ this
theorem sky_lift {n m : Nat} {sk : List (Int × Int)} (h : Sky n sk) (hm : n ≤ m) : Sky m sk := ⟨h.pos, Nat.le_trans h.len hm, h.up, h.ok⟩
theorem slen_ok {n : Nat} {sk : List (Int × Int)} (h : Sky n sk) : 1 ≤ slen sk ∧ slen sk ≤ n := by
  have h1 := h.pos
  have h2 := h.len
  unfold slen
  omega
/-! the program's defs of heights -/
abbrev WF : Nat := 0
abbrev LV : Nat := 30
theorem wh : Whole fns WF 0 := whole_ok rfl
theorem tu : Tupl fns WF 1 := tupl_ok rfl
theorem ri : Rise fns WF 2 := rise_ok rfl
theorem fso : FitsSome fns WF 3 := fits_some_ok tu wh ri rfl
theorem fst' : FitsStar fns WF 4 := fits_star_ok tu wh rfl
theorem fsk : FitsSky fns WF 5 := fits_sky_ok tu fst' ri rfl
theorem nsk : NeedSky fns WF 6 := need_sky_ok fsk rfl
theorem isW_in {v lo hi : Int} (h0 : lo ≤ v) (h1 : v ≤ hi) : isW (.int v) lo hi = true := by simp [isW, h0, h1]
theorem need_step_ev {n : Nat} (hn : 2 ≤ n) {s : Int} (h0 : 0 ≤ s) (h1 : s < 360) (M : Ms) : evFn fns WF n 7 [.d (.int s)] M = Rs.ok (.d .none) M := by
  obtain ⟨n, rfl, hn'⟩ := lev hn
  rw [evF f_need_step rfl rfl]
  simp only [f_need_step]
  apply WP.to_eq
  simp only [↓WP_ok, ↓WPO_some, ↓WPB_t, ↓WPB_f, ↓WP_end, ↓pst_q, ↓pso_q, ↓pth_p, ↓WPO_map, ↓wz_var, ↓wz_int, ↓wz_bl, ↓wz_non, ↓wz_str, ↓wz_gi, ↓wz_bin, ↓wz_neg, ↓wz_cmp, ↓wz_cmp2, ↓wz_conj, ↓wz_disj, ↓wz_not, ↓wz_ite, ↓wz_tup, ↓wz_lst, ↓wz_ix, ↓wz_rev, ↓wz_nop, ↓wz_call, ↓wz_blt, ↓wz_isi, ↓wz_lc, ↓wz_lcO, ↓wz_rng, ↓wz_zip, ↓wz_lrg, ↓wz_sst, ↓wz_enm, ↓wz_get, ↓wz_get2, ↓wz_esn, ↓wz_esc, ↓wz_pn, ↓wz_pc, ↓wz_mv, ↓wz_ml, ↓wz_mk, ↓wz_mt, ↓wz_asg1, ↓wz_asgt, ↓wz_new, ↓wz_par, ↓wz_put, ↓wz_app, ↓wz_aug, ↓wz_ex, ↓wz_ifs, ↓wz_fors, ↓wz_forO, ↓wz_whl, ↓wz_ret, ↓wz_retL, ↓wz_ret0, ↓wz_brk, ↓wz_cont, ↓wz_pass, ↓wz_ssn, ↓wz_ssc, ↓wz_fb, ↓wz_lcb, negD_i, notD_b, revD_l, revD_t, isiD_d, layL_cup, layL_l, sA_nil, sA_cons, nxt_nx, nxt_rt, nxt_bk, nxt_ct, view_d, o_add, o_sub, c_lt, c_le, c_gt, c_ge, c_eqi, c_nei, ix_t0, ix_t1, ix_t2, ix_l0, ix_l1, ix_c0, ix_c1, put_c0, put_c1, b_int, b_abs, b_lenT, b_lenL, b_tupL, b_tupT, b_lstL, b_lstT, b_lstS, b_min2, b_max2, someD_d, lcM_its, lcM_l, lcM_t, forM_its, forM_l, forM_t, WP_bind, guardR_t, bt_nm, bt_tp, bts_nil, bts_cons, wipe_nil, wipe_cons, tT0, tT1, tT2, tT3, tT4, tT5, tT6, tT7, tT8, tT9, tT10, tT11, tT12, tL0, tL1, tL2, tL3, tL4, tL5, tL6, tL7, tL8, tL9, tL10, tL11, tL12, tL13, tL14, tL15, tL16, opt_map_some, opt_bind_some, finF_d, finF_nx, List.getD_cons_zero, List.getD_cons_succ, List.set_cons_zero, List.set_cons_succ, List.map_cons, List.map_nil, List.length_cons, List.length_nil, List.cons_append, List.nil_append, List.replicate_succ, List.replicate_zero, Nat.reduceAdd, Nat.reduceSub, Nat.sub_self, ↓wz_lc2, ↓wz_lc2b, ↓wz_slJ, slF_i, slT_i, slB_i, slD_t, slD_l, lc2M_its, lc2M_l, lc2M_t, innL_its, innL_l, innL_t, isD_map, ↓wz_slF_int, ↓wz_slT_int, ↓wz_slB_int_int, ↓wz_slB_int_neg, ↓wz_slB_int_var, ↓wz_slB_int_bin, ↓wz_slB_int_ix, ↓wz_slF_neg, ↓wz_slT_neg, ↓wz_slB_neg_int, ↓wz_slB_neg_neg, ↓wz_slB_neg_var, ↓wz_slB_neg_bin, ↓wz_slB_neg_ix, ↓wz_slF_var, ↓wz_slT_var, ↓wz_slB_var_int, ↓wz_slB_var_neg, ↓wz_slB_var_var, ↓wz_slB_var_bin, ↓wz_slB_var_ix, ↓wz_slF_bin, ↓wz_slT_bin, ↓wz_slB_bin_int, ↓wz_slB_bin_neg, ↓wz_slB_bin_var, ↓wz_slB_bin_bin, ↓wz_slB_bin_ix, ↓wz_slF_ix, ↓wz_slT_ix, ↓wz_slB_ix_int, ↓wz_slB_ix_neg, ↓wz_slB_ix_var, ↓wz_slB_ix_bin, ↓wz_slB_ix_ix, ↓wz_slF_call, ↓wz_slT_call, ↓wz_slF_blt, ↓wz_slT_blt, ↓wz_lcn, ↓wz_lcc, ↓wz_forn, ↓wz_forc, consO_s, consO_n, forK_nx, forK_ct, forK_bk, forK_rt, c_isN, c_isnN, c_isT, c_isF, c_isnT, c_isnF, isNone_n, isNone_t, isNone_l, isNone_i, isNone_b, c_nel0, c_eql0, Bool.not_true, Bool.not_false, o_catL, o_catT, Nat.reduceLeDiff, ↓wz_mp, ↓wz_ms, layS_i, c_nes, c_eqs, b_gcd]
  refine WP.eq (wh.ev n hn' _ _ _ _) ?_
  simp only [↓WP_ok, ↓WPO_some, ↓WPB_t, ↓WPB_f, ↓WP_end, ↓pst_q, ↓pso_q, ↓pth_p, ↓WPO_map, ↓wz_var, ↓wz_int, ↓wz_bl, ↓wz_non, ↓wz_str, ↓wz_gi, ↓wz_bin, ↓wz_neg, ↓wz_cmp, ↓wz_cmp2, ↓wz_conj, ↓wz_disj, ↓wz_not, ↓wz_ite, ↓wz_tup, ↓wz_lst, ↓wz_ix, ↓wz_rev, ↓wz_nop, ↓wz_call, ↓wz_blt, ↓wz_isi, ↓wz_lc, ↓wz_lcO, ↓wz_rng, ↓wz_zip, ↓wz_lrg, ↓wz_sst, ↓wz_enm, ↓wz_get, ↓wz_get2, ↓wz_esn, ↓wz_esc, ↓wz_pn, ↓wz_pc, ↓wz_mv, ↓wz_ml, ↓wz_mk, ↓wz_mt, ↓wz_asg1, ↓wz_asgt, ↓wz_new, ↓wz_par, ↓wz_put, ↓wz_app, ↓wz_aug, ↓wz_ex, ↓wz_ifs, ↓wz_fors, ↓wz_forO, ↓wz_whl, ↓wz_ret, ↓wz_retL, ↓wz_ret0, ↓wz_brk, ↓wz_cont, ↓wz_pass, ↓wz_ssn, ↓wz_ssc, ↓wz_fb, ↓wz_lcb, negD_i, notD_b, revD_l, revD_t, isiD_d, layL_cup, layL_l, sA_nil, sA_cons, nxt_nx, nxt_rt, nxt_bk, nxt_ct, view_d, o_add, o_sub, c_lt, c_le, c_gt, c_ge, c_eqi, c_nei, ix_t0, ix_t1, ix_t2, ix_l0, ix_l1, ix_c0, ix_c1, put_c0, put_c1, b_int, b_abs, b_lenT, b_lenL, b_tupL, b_tupT, b_lstL, b_lstT, b_lstS, b_min2, b_max2, someD_d, lcM_its, lcM_l, lcM_t, forM_its, forM_l, forM_t, WP_bind, guardR_t, bt_nm, bt_tp, bts_nil, bts_cons, wipe_nil, wipe_cons, tT0, tT1, tT2, tT3, tT4, tT5, tT6, tT7, tT8, tT9, tT10, tT11, tT12, tL0, tL1, tL2, tL3, tL4, tL5, tL6, tL7, tL8, tL9, tL10, tL11, tL12, tL13, tL14, tL15, tL16, opt_map_some, opt_bind_some, finF_d, finF_nx, List.getD_cons_zero, List.getD_cons_succ, List.set_cons_zero, List.set_cons_succ, List.map_cons, List.map_nil, List.length_cons, List.length_nil, List.cons_append, List.nil_append, List.replicate_succ, List.replicate_zero, Nat.reduceAdd, Nat.reduceSub, Nat.sub_self, ↓wz_lc2, ↓wz_lc2b, ↓wz_slJ, slF_i, slT_i, slB_i, slD_t, slD_l, lc2M_its, lc2M_l, lc2M_t, innL_its, innL_l, innL_t, isD_map, ↓wz_slF_int, ↓wz_slT_int, ↓wz_slB_int_int, ↓wz_slB_int_neg, ↓wz_slB_int_var, ↓wz_slB_int_bin, ↓wz_slB_int_ix, ↓wz_slF_neg, ↓wz_slT_neg, ↓wz_slB_neg_int, ↓wz_slB_neg_neg, ↓wz_slB_neg_var, ↓wz_slB_neg_bin, ↓wz_slB_neg_ix, ↓wz_slF_var, ↓wz_slT_var, ↓wz_slB_var_int, ↓wz_slB_var_neg, ↓wz_slB_var_var, ↓wz_slB_var_bin, ↓wz_slB_var_ix, ↓wz_slF_bin, ↓wz_slT_bin, ↓wz_slB_bin_int, ↓wz_slB_bin_neg, ↓wz_slB_bin_var, ↓wz_slB_bin_bin, ↓wz_slB_bin_ix, ↓wz_slF_ix, ↓wz_slT_ix, ↓wz_slB_ix_int, ↓wz_slB_ix_neg, ↓wz_slB_ix_var, ↓wz_slB_ix_bin, ↓wz_slB_ix_ix, ↓wz_slF_call, ↓wz_slT_call, ↓wz_slF_blt, ↓wz_slT_blt, ↓wz_lcn, ↓wz_lcc, ↓wz_forn, ↓wz_forc, consO_s, consO_n, forK_nx, forK_ct, forK_bk, forK_rt, c_isN, c_isnN, c_isT, c_isF, c_isnT, c_isnF, isNone_n, isNone_t, isNone_l, isNone_i, isNone_b, c_nel0, c_eql0, Bool.not_true, Bool.not_false, o_catL, o_catT, Nat.reduceLeDiff, ↓wz_mp, ↓wz_ms, layS_i, c_nes, c_eqs, b_gcd, isW_in h0 (show s ≤ 360 - 1 by omega), Bool.not_true, take_all, and_self]
def ht (x : Int) : Int := if x % 360 ≤ 90 then x % 360 else if x % 360 ≤ 270 then 180 - x % 360 else x % 360 - 360
theorem height_in_ev {n : Nat} (hn : 1 ≤ n) {sk : List (Int × Int)} {s : Int} (h0 : 0 ≤ s) (h1 : s < slen sk) (t : Int) (M : Ms) : evFn fns WF n 8 [.d (skyD sk), .d (.int s), .d (.int t)] M = Rs.ok (.d (.int (ht (plc sk s + t)))) M := by
  obtain ⟨n, rfl, hn'⟩ := lev hn
  rw [evF f_height_in rfl rfl]
  simp only [f_height_in]
  apply WP.to_eq
  simp only [↓WP_ok, ↓WPO_some, ↓WPB_t, ↓WPB_f, ↓WP_end, ↓pst_q, ↓pso_q, ↓pth_p, ↓WPO_map, ↓wz_var, ↓wz_int, ↓wz_bl, ↓wz_non, ↓wz_str, ↓wz_gi, ↓wz_bin, ↓wz_neg, ↓wz_cmp, ↓wz_cmp2, ↓wz_conj, ↓wz_disj, ↓wz_not, ↓wz_ite, ↓wz_tup, ↓wz_lst, ↓wz_ix, ↓wz_rev, ↓wz_nop, ↓wz_call, ↓wz_blt, ↓wz_isi, ↓wz_lc, ↓wz_lcO, ↓wz_rng, ↓wz_zip, ↓wz_lrg, ↓wz_sst, ↓wz_enm, ↓wz_get, ↓wz_get2, ↓wz_esn, ↓wz_esc, ↓wz_pn, ↓wz_pc, ↓wz_mv, ↓wz_ml, ↓wz_mk, ↓wz_mt, ↓wz_asg1, ↓wz_asgt, ↓wz_new, ↓wz_par, ↓wz_put, ↓wz_app, ↓wz_aug, ↓wz_ex, ↓wz_ifs, ↓wz_fors, ↓wz_forO, ↓wz_whl, ↓wz_ret, ↓wz_retL, ↓wz_ret0, ↓wz_brk, ↓wz_cont, ↓wz_pass, ↓wz_ssn, ↓wz_ssc, ↓wz_fb, ↓wz_lcb, negD_i, notD_b, revD_l, revD_t, isiD_d, layL_cup, layL_l, sA_nil, sA_cons, nxt_nx, nxt_rt, nxt_bk, nxt_ct, view_d, o_add, o_sub, c_lt, c_le, c_gt, c_ge, c_eqi, c_nei, ix_t0, ix_t1, ix_t2, ix_l0, ix_l1, ix_c0, ix_c1, put_c0, put_c1, b_int, b_abs, b_lenT, b_lenL, b_tupL, b_tupT, b_lstL, b_lstT, b_lstS, b_min2, b_max2, someD_d, lcM_its, lcM_l, lcM_t, forM_its, forM_l, forM_t, WP_bind, guardR_t, bt_nm, bt_tp, bts_nil, bts_cons, wipe_nil, wipe_cons, tT0, tT1, tT2, tT3, tT4, tT5, tT6, tT7, tT8, tT9, tT10, tT11, tT12, tL0, tL1, tL2, tL3, tL4, tL5, tL6, tL7, tL8, tL9, tL10, tL11, tL12, tL13, tL14, tL15, tL16, opt_map_some, opt_bind_some, finF_d, finF_nx, List.getD_cons_zero, List.getD_cons_succ, List.set_cons_zero, List.set_cons_succ, List.map_cons, List.map_nil, List.length_cons, List.length_nil, List.cons_append, List.nil_append, List.replicate_succ, List.replicate_zero, Nat.reduceAdd, Nat.reduceSub, Nat.sub_self, ↓wz_lc2, ↓wz_lc2b, ↓wz_slJ, slF_i, slT_i, slB_i, slD_t, slD_l, lc2M_its, lc2M_l, lc2M_t, innL_its, innL_l, innL_t, isD_map, ↓wz_slF_int, ↓wz_slT_int, ↓wz_slB_int_int, ↓wz_slB_int_neg, ↓wz_slB_int_var, ↓wz_slB_int_bin, ↓wz_slB_int_ix, ↓wz_slF_neg, ↓wz_slT_neg, ↓wz_slB_neg_int, ↓wz_slB_neg_neg, ↓wz_slB_neg_var, ↓wz_slB_neg_bin, ↓wz_slB_neg_ix, ↓wz_slF_var, ↓wz_slT_var, ↓wz_slB_var_int, ↓wz_slB_var_neg, ↓wz_slB_var_var, ↓wz_slB_var_bin, ↓wz_slB_var_ix, ↓wz_slF_bin, ↓wz_slT_bin, ↓wz_slB_bin_int, ↓wz_slB_bin_neg, ↓wz_slB_bin_var, ↓wz_slB_bin_bin, ↓wz_slB_bin_ix, ↓wz_slF_ix, ↓wz_slT_ix, ↓wz_slB_ix_int, ↓wz_slB_ix_neg, ↓wz_slB_ix_var, ↓wz_slB_ix_bin, ↓wz_slB_ix_ix, ↓wz_slF_call, ↓wz_slT_call, ↓wz_slF_blt, ↓wz_slT_blt, ↓wz_lcn, ↓wz_lcc, ↓wz_forn, ↓wz_forc, consO_s, consO_n, forK_nx, forK_ct, forK_bk, forK_rt, c_isN, c_isnN, c_isT, c_isF, c_isnT, c_isnF, isNone_n, isNone_t, isNone_l, isNone_i, isNone_b, c_nel0, c_eql0, Bool.not_true, Bool.not_false, o_catL, o_catT, Nat.reduceLeDiff, ↓wz_mp, ↓wz_ms, layS_i, c_nes, c_eqs, b_gcd, ix_sky _ h0 h1, o_mod _ (show (0 : Int) < 360 by decide)]
  unfold ht
  refine WPB.if (fun h => ?_) (fun h => ?_)
  · have h := of_decide_eq_true h
    simp only [↓WP_ok, ↓WPO_some, ↓WPB_t, ↓WPB_f, ↓WP_end, ↓pst_q, ↓pso_q, ↓pth_p, ↓WPO_map, ↓wz_var, ↓wz_int, ↓wz_bl, ↓wz_non, ↓wz_str, ↓wz_gi, ↓wz_bin, ↓wz_neg, ↓wz_cmp, ↓wz_cmp2, ↓wz_conj, ↓wz_disj, ↓wz_not, ↓wz_ite, ↓wz_tup, ↓wz_lst, ↓wz_ix, ↓wz_rev, ↓wz_nop, ↓wz_call, ↓wz_blt, ↓wz_isi, ↓wz_lc, ↓wz_lcO, ↓wz_rng, ↓wz_zip, ↓wz_lrg, ↓wz_sst, ↓wz_enm, ↓wz_get, ↓wz_get2, ↓wz_esn, ↓wz_esc, ↓wz_pn, ↓wz_pc, ↓wz_mv, ↓wz_ml, ↓wz_mk, ↓wz_mt, ↓wz_asg1, ↓wz_asgt, ↓wz_new, ↓wz_par, ↓wz_put, ↓wz_app, ↓wz_aug, ↓wz_ex, ↓wz_ifs, ↓wz_fors, ↓wz_forO, ↓wz_whl, ↓wz_ret, ↓wz_retL, ↓wz_ret0, ↓wz_brk, ↓wz_cont, ↓wz_pass, ↓wz_ssn, ↓wz_ssc, ↓wz_fb, ↓wz_lcb, negD_i, notD_b, revD_l, revD_t, isiD_d, layL_cup, layL_l, sA_nil, sA_cons, nxt_nx, nxt_rt, nxt_bk, nxt_ct, view_d, o_add, o_sub, c_lt, c_le, c_gt, c_ge, c_eqi, c_nei, ix_t0, ix_t1, ix_t2, ix_l0, ix_l1, ix_c0, ix_c1, put_c0, put_c1, b_int, b_abs, b_lenT, b_lenL, b_tupL, b_tupT, b_lstL, b_lstT, b_lstS, b_min2, b_max2, someD_d, lcM_its, lcM_l, lcM_t, forM_its, forM_l, forM_t, WP_bind, guardR_t, bt_nm, bt_tp, bts_nil, bts_cons, wipe_nil, wipe_cons, tT0, tT1, tT2, tT3, tT4, tT5, tT6, tT7, tT8, tT9, tT10, tT11, tT12, tL0, tL1, tL2, tL3, tL4, tL5, tL6, tL7, tL8, tL9, tL10, tL11, tL12, tL13, tL14, tL15, tL16, opt_map_some, opt_bind_some, finF_d, finF_nx, List.getD_cons_zero, List.getD_cons_succ, List.set_cons_zero, List.set_cons_succ, List.map_cons, List.map_nil, List.length_cons, List.length_nil, List.cons_append, List.nil_append, List.replicate_succ, List.replicate_zero, Nat.reduceAdd, Nat.reduceSub, Nat.sub_self, ↓wz_lc2, ↓wz_lc2b, ↓wz_slJ, slF_i, slT_i, slB_i, slD_t, slD_l, lc2M_its, lc2M_l, lc2M_t, innL_its, innL_l, innL_t, isD_map, ↓wz_slF_int, ↓wz_slT_int, ↓wz_slB_int_int, ↓wz_slB_int_neg, ↓wz_slB_int_var, ↓wz_slB_int_bin, ↓wz_slB_int_ix, ↓wz_slF_neg, ↓wz_slT_neg, ↓wz_slB_neg_int, ↓wz_slB_neg_neg, ↓wz_slB_neg_var, ↓wz_slB_neg_bin, ↓wz_slB_neg_ix, ↓wz_slF_var, ↓wz_slT_var, ↓wz_slB_var_int, ↓wz_slB_var_neg, ↓wz_slB_var_var, ↓wz_slB_var_bin, ↓wz_slB_var_ix, ↓wz_slF_bin, ↓wz_slT_bin, ↓wz_slB_bin_int, ↓wz_slB_bin_neg, ↓wz_slB_bin_var, ↓wz_slB_bin_bin, ↓wz_slB_bin_ix, ↓wz_slF_ix, ↓wz_slT_ix, ↓wz_slB_ix_int, ↓wz_slB_ix_neg, ↓wz_slB_ix_var, ↓wz_slB_ix_bin, ↓wz_slB_ix_ix, ↓wz_slF_call, ↓wz_slT_call, ↓wz_slF_blt, ↓wz_slT_blt, ↓wz_lcn, ↓wz_lcc, ↓wz_forn, ↓wz_forc, consO_s, consO_n, forK_nx, forK_ct, forK_bk, forK_rt, c_isN, c_isnN, c_isT, c_isF, c_isnT, c_isnF, isNone_n, isNone_t, isNone_l, isNone_i, isNone_b, c_nel0, c_eql0, Bool.not_true, Bool.not_false, o_catL, o_catT, Nat.reduceLeDiff, ↓wz_mp, ↓wz_ms, layS_i, c_nes, c_eqs, b_gcd, take_all, h, if_true, and_self]
  · have h := of_decide_eq_false h
    simp only [↓WP_ok, ↓WPO_some, ↓WPB_t, ↓WPB_f, ↓WP_end, ↓pst_q, ↓pso_q, ↓pth_p, ↓WPO_map, ↓wz_var, ↓wz_int, ↓wz_bl, ↓wz_non, ↓wz_str, ↓wz_gi, ↓wz_bin, ↓wz_neg, ↓wz_cmp, ↓wz_cmp2, ↓wz_conj, ↓wz_disj, ↓wz_not, ↓wz_ite, ↓wz_tup, ↓wz_lst, ↓wz_ix, ↓wz_rev, ↓wz_nop, ↓wz_call, ↓wz_blt, ↓wz_isi, ↓wz_lc, ↓wz_lcO, ↓wz_rng, ↓wz_zip, ↓wz_lrg, ↓wz_sst, ↓wz_enm, ↓wz_get, ↓wz_get2, ↓wz_esn, ↓wz_esc, ↓wz_pn, ↓wz_pc, ↓wz_mv, ↓wz_ml, ↓wz_mk, ↓wz_mt, ↓wz_asg1, ↓wz_asgt, ↓wz_new, ↓wz_par, ↓wz_put, ↓wz_app, ↓wz_aug, ↓wz_ex, ↓wz_ifs, ↓wz_fors, ↓wz_forO, ↓wz_whl, ↓wz_ret, ↓wz_retL, ↓wz_ret0, ↓wz_brk, ↓wz_cont, ↓wz_pass, ↓wz_ssn, ↓wz_ssc, ↓wz_fb, ↓wz_lcb, negD_i, notD_b, revD_l, revD_t, isiD_d, layL_cup, layL_l, sA_nil, sA_cons, nxt_nx, nxt_rt, nxt_bk, nxt_ct, view_d, o_add, o_sub, c_lt, c_le, c_gt, c_ge, c_eqi, c_nei, ix_t0, ix_t1, ix_t2, ix_l0, ix_l1, ix_c0, ix_c1, put_c0, put_c1, b_int, b_abs, b_lenT, b_lenL, b_tupL, b_tupT, b_lstL, b_lstT, b_lstS, b_min2, b_max2, someD_d, lcM_its, lcM_l, lcM_t, forM_its, forM_l, forM_t, WP_bind, guardR_t, bt_nm, bt_tp, bts_nil, bts_cons, wipe_nil, wipe_cons, tT0, tT1, tT2, tT3, tT4, tT5, tT6, tT7, tT8, tT9, tT10, tT11, tT12, tL0, tL1, tL2, tL3, tL4, tL5, tL6, tL7, tL8, tL9, tL10, tL11, tL12, tL13, tL14, tL15, tL16, opt_map_some, opt_bind_some, finF_d, finF_nx, List.getD_cons_zero, List.getD_cons_succ, List.set_cons_zero, List.set_cons_succ, List.map_cons, List.map_nil, List.length_cons, List.length_nil, List.cons_append, List.nil_append, List.replicate_succ, List.replicate_zero, Nat.reduceAdd, Nat.reduceSub, Nat.sub_self, ↓wz_lc2, ↓wz_lc2b, ↓wz_slJ, slF_i, slT_i, slB_i, slD_t, slD_l, lc2M_its, lc2M_l, lc2M_t, innL_its, innL_l, innL_t, isD_map, ↓wz_slF_int, ↓wz_slT_int, ↓wz_slB_int_int, ↓wz_slB_int_neg, ↓wz_slB_int_var, ↓wz_slB_int_bin, ↓wz_slB_int_ix, ↓wz_slF_neg, ↓wz_slT_neg, ↓wz_slB_neg_int, ↓wz_slB_neg_neg, ↓wz_slB_neg_var, ↓wz_slB_neg_bin, ↓wz_slB_neg_ix, ↓wz_slF_var, ↓wz_slT_var, ↓wz_slB_var_int, ↓wz_slB_var_neg, ↓wz_slB_var_var, ↓wz_slB_var_bin, ↓wz_slB_var_ix, ↓wz_slF_bin, ↓wz_slT_bin, ↓wz_slB_bin_int, ↓wz_slB_bin_neg, ↓wz_slB_bin_var, ↓wz_slB_bin_bin, ↓wz_slB_bin_ix, ↓wz_slF_ix, ↓wz_slT_ix, ↓wz_slB_ix_int, ↓wz_slB_ix_neg, ↓wz_slB_ix_var, ↓wz_slB_ix_bin, ↓wz_slB_ix_ix, ↓wz_slF_call, ↓wz_slT_call, ↓wz_slF_blt, ↓wz_slT_blt, ↓wz_lcn, ↓wz_lcc, ↓wz_forn, ↓wz_forc, consO_s, consO_n, forK_nx, forK_ct, forK_bk, forK_rt, c_isN, c_isnN, c_isT, c_isF, c_isnT, c_isnF, isNone_n, isNone_t, isNone_l, isNone_i, isNone_b, c_nel0, c_eql0, Bool.not_true, Bool.not_false, o_catL, o_catT, Nat.reduceLeDiff, ↓wz_mp, ↓wz_ms, layS_i, c_nes, c_eqs, b_gcd]
    refine WPB.if (fun h2 => ?_) (fun h2 => ?_)
    · have h2 := of_decide_eq_true h2
      simp only [↓WP_ok, ↓WPO_some, ↓WPB_t, ↓WPB_f, ↓WP_end, ↓pst_q, ↓pso_q, ↓pth_p, ↓WPO_map, ↓wz_var, ↓wz_int, ↓wz_bl, ↓wz_non, ↓wz_str, ↓wz_gi, ↓wz_bin, ↓wz_neg, ↓wz_cmp, ↓wz_cmp2, ↓wz_conj, ↓wz_disj, ↓wz_not, ↓wz_ite, ↓wz_tup, ↓wz_lst, ↓wz_ix, ↓wz_rev, ↓wz_nop, ↓wz_call, ↓wz_blt, ↓wz_isi, ↓wz_lc, ↓wz_lcO, ↓wz_rng, ↓wz_zip, ↓wz_lrg, ↓wz_sst, ↓wz_enm, ↓wz_get, ↓wz_get2, ↓wz_esn, ↓wz_esc, ↓wz_pn, ↓wz_pc, ↓wz_mv, ↓wz_ml, ↓wz_mk, ↓wz_mt, ↓wz_asg1, ↓wz_asgt, ↓wz_new, ↓wz_par, ↓wz_put, ↓wz_app, ↓wz_aug, ↓wz_ex, ↓wz_ifs, ↓wz_fors, ↓wz_forO, ↓wz_whl, ↓wz_ret, ↓wz_retL, ↓wz_ret0, ↓wz_brk, ↓wz_cont, ↓wz_pass, ↓wz_ssn, ↓wz_ssc, ↓wz_fb, ↓wz_lcb, negD_i, notD_b, revD_l, revD_t, isiD_d, layL_cup, layL_l, sA_nil, sA_cons, nxt_nx, nxt_rt, nxt_bk, nxt_ct, view_d, o_add, o_sub, c_lt, c_le, c_gt, c_ge, c_eqi, c_nei, ix_t0, ix_t1, ix_t2, ix_l0, ix_l1, ix_c0, ix_c1, put_c0, put_c1, b_int, b_abs, b_lenT, b_lenL, b_tupL, b_tupT, b_lstL, b_lstT, b_lstS, b_min2, b_max2, someD_d, lcM_its, lcM_l, lcM_t, forM_its, forM_l, forM_t, WP_bind, guardR_t, bt_nm, bt_tp, bts_nil, bts_cons, wipe_nil, wipe_cons, tT0, tT1, tT2, tT3, tT4, tT5, tT6, tT7, tT8, tT9, tT10, tT11, tT12, tL0, tL1, tL2, tL3, tL4, tL5, tL6, tL7, tL8, tL9, tL10, tL11, tL12, tL13, tL14, tL15, tL16, opt_map_some, opt_bind_some, finF_d, finF_nx, List.getD_cons_zero, List.getD_cons_succ, List.set_cons_zero, List.set_cons_succ, List.map_cons, List.map_nil, List.length_cons, List.length_nil, List.cons_append, List.nil_append, List.replicate_succ, List.replicate_zero, Nat.reduceAdd, Nat.reduceSub, Nat.sub_self, ↓wz_lc2, ↓wz_lc2b, ↓wz_slJ, slF_i, slT_i, slB_i, slD_t, slD_l, lc2M_its, lc2M_l, lc2M_t, innL_its, innL_l, innL_t, isD_map, ↓wz_slF_int, ↓wz_slT_int, ↓wz_slB_int_int, ↓wz_slB_int_neg, ↓wz_slB_int_var, ↓wz_slB_int_bin, ↓wz_slB_int_ix, ↓wz_slF_neg, ↓wz_slT_neg, ↓wz_slB_neg_int, ↓wz_slB_neg_neg, ↓wz_slB_neg_var, ↓wz_slB_neg_bin, ↓wz_slB_neg_ix, ↓wz_slF_var, ↓wz_slT_var, ↓wz_slB_var_int, ↓wz_slB_var_neg, ↓wz_slB_var_var, ↓wz_slB_var_bin, ↓wz_slB_var_ix, ↓wz_slF_bin, ↓wz_slT_bin, ↓wz_slB_bin_int, ↓wz_slB_bin_neg, ↓wz_slB_bin_var, ↓wz_slB_bin_bin, ↓wz_slB_bin_ix, ↓wz_slF_ix, ↓wz_slT_ix, ↓wz_slB_ix_int, ↓wz_slB_ix_neg, ↓wz_slB_ix_var, ↓wz_slB_ix_bin, ↓wz_slB_ix_ix, ↓wz_slF_call, ↓wz_slT_call, ↓wz_slF_blt, ↓wz_slT_blt, ↓wz_lcn, ↓wz_lcc, ↓wz_forn, ↓wz_forc, consO_s, consO_n, forK_nx, forK_ct, forK_bk, forK_rt, c_isN, c_isnN, c_isT, c_isF, c_isnT, c_isnF, isNone_n, isNone_t, isNone_l, isNone_i, isNone_b, c_nel0, c_eql0, Bool.not_true, Bool.not_false, o_catL, o_catT, Nat.reduceLeDiff, ↓wz_mp, ↓wz_ms, layS_i, c_nes, c_eqs, b_gcd, take_all, h, h2, if_true, if_false, and_self]
    · have h2 := of_decide_eq_false h2
      simp only [↓WP_ok, ↓WPO_some, ↓WPB_t, ↓WPB_f, ↓WP_end, ↓pst_q, ↓pso_q, ↓pth_p, ↓WPO_map, ↓wz_var, ↓wz_int, ↓wz_bl, ↓wz_non, ↓wz_str, ↓wz_gi, ↓wz_bin, ↓wz_neg, ↓wz_cmp, ↓wz_cmp2, ↓wz_conj, ↓wz_disj, ↓wz_not, ↓wz_ite, ↓wz_tup, ↓wz_lst, ↓wz_ix, ↓wz_rev, ↓wz_nop, ↓wz_call, ↓wz_blt, ↓wz_isi, ↓wz_lc, ↓wz_lcO, ↓wz_rng, ↓wz_zip, ↓wz_lrg, ↓wz_sst, ↓wz_enm, ↓wz_get, ↓wz_get2, ↓wz_esn, ↓wz_esc, ↓wz_pn, ↓wz_pc, ↓wz_mv, ↓wz_ml, ↓wz_mk, ↓wz_mt, ↓wz_asg1, ↓wz_asgt, ↓wz_new, ↓wz_par, ↓wz_put, ↓wz_app, ↓wz_aug, ↓wz_ex, ↓wz_ifs, ↓wz_fors, ↓wz_forO, ↓wz_whl, ↓wz_ret, ↓wz_retL, ↓wz_ret0, ↓wz_brk, ↓wz_cont, ↓wz_pass, ↓wz_ssn, ↓wz_ssc, ↓wz_fb, ↓wz_lcb, negD_i, notD_b, revD_l, revD_t, isiD_d, layL_cup, layL_l, sA_nil, sA_cons, nxt_nx, nxt_rt, nxt_bk, nxt_ct, view_d, o_add, o_sub, c_lt, c_le, c_gt, c_ge, c_eqi, c_nei, ix_t0, ix_t1, ix_t2, ix_l0, ix_l1, ix_c0, ix_c1, put_c0, put_c1, b_int, b_abs, b_lenT, b_lenL, b_tupL, b_tupT, b_lstL, b_lstT, b_lstS, b_min2, b_max2, someD_d, lcM_its, lcM_l, lcM_t, forM_its, forM_l, forM_t, WP_bind, guardR_t, bt_nm, bt_tp, bts_nil, bts_cons, wipe_nil, wipe_cons, tT0, tT1, tT2, tT3, tT4, tT5, tT6, tT7, tT8, tT9, tT10, tT11, tT12, tL0, tL1, tL2, tL3, tL4, tL5, tL6, tL7, tL8, tL9, tL10, tL11, tL12, tL13, tL14, tL15, tL16, opt_map_some, opt_bind_some, finF_d, finF_nx, List.getD_cons_zero, List.getD_cons_succ, List.set_cons_zero, List.set_cons_succ, List.map_cons, List.map_nil, List.length_cons, List.length_nil, List.cons_append, List.nil_append, List.replicate_succ, List.replicate_zero, Nat.reduceAdd, Nat.reduceSub, Nat.sub_self, ↓wz_lc2, ↓wz_lc2b, ↓wz_slJ, slF_i, slT_i, slB_i, slD_t, slD_l, lc2M_its, lc2M_l, lc2M_t, innL_its, innL_l, innL_t, isD_map, ↓wz_slF_int, ↓wz_slT_int, ↓wz_slB_int_int, ↓wz_slB_int_neg, ↓wz_slB_int_var, ↓wz_slB_int_bin, ↓wz_slB_int_ix, ↓wz_slF_neg, ↓wz_slT_neg, ↓wz_slB_neg_int, ↓wz_slB_neg_neg, ↓wz_slB_neg_var, ↓wz_slB_neg_bin, ↓wz_slB_neg_ix, ↓wz_slF_var, ↓wz_slT_var, ↓wz_slB_var_int, ↓wz_slB_var_neg, ↓wz_slB_var_var, ↓wz_slB_var_bin, ↓wz_slB_var_ix, ↓wz_slF_bin, ↓wz_slT_bin, ↓wz_slB_bin_int, ↓wz_slB_bin_neg, ↓wz_slB_bin_var, ↓wz_slB_bin_bin, ↓wz_slB_bin_ix, ↓wz_slF_ix, ↓wz_slT_ix, ↓wz_slB_ix_int, ↓wz_slB_ix_neg, ↓wz_slB_ix_var, ↓wz_slB_ix_bin, ↓wz_slB_ix_ix, ↓wz_slF_call, ↓wz_slT_call, ↓wz_slF_blt, ↓wz_slT_blt, ↓wz_lcn, ↓wz_lcc, ↓wz_forn, ↓wz_forc, consO_s, consO_n, forK_nx, forK_ct, forK_bk, forK_rt, c_isN, c_isnN, c_isT, c_isF, c_isnT, c_isnF, isNone_n, isNone_t, isNone_l, isNone_i, isNone_b, c_nel0, c_eql0, Bool.not_true, Bool.not_false, o_catL, o_catT, Nat.reduceLeDiff, ↓wz_mp, ↓wz_ms, layS_i, c_nes, c_eqs, b_gcd, take_all, h, h2, if_true, if_false, and_self]
def intD (l : List Int) : PyData := .tuple (l.map .int)
theorem fits_lot {many : Int} {l : List Int} (h : Lot many l) (hm : 0 ≤ many) : fitsSome many (intD l) = true := by
  have h1 := lot_len h hm
  show (decide (((l.map PyData.int).length : Int) ≤ many) && (l.map PyData.int).all (fun x => isW x 0 (many - 1)) && (match intsOf (l.map .int) with
    | some ks => rising ks
    | none => false)) = true
  rw [intsOf_map]
  simp only [List.length_map, rising_of h.up, Bool.and_true, Bool.and_eq_true, decide_eq_true_eq]
  refine ⟨h1, ?_⟩
  rw [List.all_eq_true]
  intro x hx
  obtain ⟨s, hs, rfl⟩ := List.mem_map.mp hx
  have := h.ok s hs
  exact isW_in this.1 (by omega)
theorem need_lot_ev {n : Nat} (hn : 5 ≤ n) {sk : List (Int × Int)} (hs : Sky 24 sk) {l : List Int} (h : Lot (slen sk) l) (M : Ms) : evFn fns WF n 12 [.d (skyD sk), .d (intD l)] M = Rs.ok (.d .none) M := by
  obtain ⟨n, rfl, hn'⟩ := lev hn
  rw [evF f_need_lot rfl rfl]
  simp only [f_need_lot]
  have hl := slen_ok hs
  apply WP.to_eq
  simp only [↓WP_ok, ↓WPO_some, ↓WPB_t, ↓WPB_f, ↓WP_end, ↓pst_q, ↓pso_q, ↓pth_p, ↓WPO_map, ↓wz_var, ↓wz_int, ↓wz_bl, ↓wz_non, ↓wz_str, ↓wz_gi, ↓wz_bin, ↓wz_neg, ↓wz_cmp, ↓wz_cmp2, ↓wz_conj, ↓wz_disj, ↓wz_not, ↓wz_ite, ↓wz_tup, ↓wz_lst, ↓wz_ix, ↓wz_rev, ↓wz_nop, ↓wz_call, ↓wz_blt, ↓wz_isi, ↓wz_lc, ↓wz_lcO, ↓wz_rng, ↓wz_zip, ↓wz_lrg, ↓wz_sst, ↓wz_enm, ↓wz_get, ↓wz_get2, ↓wz_esn, ↓wz_esc, ↓wz_pn, ↓wz_pc, ↓wz_mv, ↓wz_ml, ↓wz_mk, ↓wz_mt, ↓wz_asg1, ↓wz_asgt, ↓wz_new, ↓wz_par, ↓wz_put, ↓wz_app, ↓wz_aug, ↓wz_ex, ↓wz_ifs, ↓wz_fors, ↓wz_forO, ↓wz_whl, ↓wz_ret, ↓wz_retL, ↓wz_ret0, ↓wz_brk, ↓wz_cont, ↓wz_pass, ↓wz_ssn, ↓wz_ssc, ↓wz_fb, ↓wz_lcb, negD_i, notD_b, revD_l, revD_t, isiD_d, layL_cup, layL_l, sA_nil, sA_cons, nxt_nx, nxt_rt, nxt_bk, nxt_ct, view_d, o_add, o_sub, c_lt, c_le, c_gt, c_ge, c_eqi, c_nei, ix_t0, ix_t1, ix_t2, ix_l0, ix_l1, ix_c0, ix_c1, put_c0, put_c1, b_int, b_abs, b_lenT, b_lenL, b_tupL, b_tupT, b_lstL, b_lstT, b_lstS, b_min2, b_max2, someD_d, lcM_its, lcM_l, lcM_t, forM_its, forM_l, forM_t, WP_bind, guardR_t, bt_nm, bt_tp, bts_nil, bts_cons, wipe_nil, wipe_cons, tT0, tT1, tT2, tT3, tT4, tT5, tT6, tT7, tT8, tT9, tT10, tT11, tT12, tL0, tL1, tL2, tL3, tL4, tL5, tL6, tL7, tL8, tL9, tL10, tL11, tL12, tL13, tL14, tL15, tL16, opt_map_some, opt_bind_some, finF_d, finF_nx, List.getD_cons_zero, List.getD_cons_succ, List.set_cons_zero, List.set_cons_succ, List.map_cons, List.map_nil, List.length_cons, List.length_nil, List.cons_append, List.nil_append, List.replicate_succ, List.replicate_zero, Nat.reduceAdd, Nat.reduceSub, Nat.sub_self, ↓wz_lc2, ↓wz_lc2b, ↓wz_slJ, slF_i, slT_i, slB_i, slD_t, slD_l, lc2M_its, lc2M_l, lc2M_t, innL_its, innL_l, innL_t, isD_map, ↓wz_slF_int, ↓wz_slT_int, ↓wz_slB_int_int, ↓wz_slB_int_neg, ↓wz_slB_int_var, ↓wz_slB_int_bin, ↓wz_slB_int_ix, ↓wz_slF_neg, ↓wz_slT_neg, ↓wz_slB_neg_int, ↓wz_slB_neg_neg, ↓wz_slB_neg_var, ↓wz_slB_neg_bin, ↓wz_slB_neg_ix, ↓wz_slF_var, ↓wz_slT_var, ↓wz_slB_var_int, ↓wz_slB_var_neg, ↓wz_slB_var_var, ↓wz_slB_var_bin, ↓wz_slB_var_ix, ↓wz_slF_bin, ↓wz_slT_bin, ↓wz_slB_bin_int, ↓wz_slB_bin_neg, ↓wz_slB_bin_var, ↓wz_slB_bin_bin, ↓wz_slB_bin_ix, ↓wz_slF_ix, ↓wz_slT_ix, ↓wz_slB_ix_int, ↓wz_slB_ix_neg, ↓wz_slB_ix_var, ↓wz_slB_ix_bin, ↓wz_slB_ix_ix, ↓wz_slF_call, ↓wz_slT_call, ↓wz_slF_blt, ↓wz_slT_blt, ↓wz_lcn, ↓wz_lcc, ↓wz_forn, ↓wz_forc, consO_s, consO_n, forK_nx, forK_ct, forK_bk, forK_rt, c_isN, c_isnN, c_isT, c_isF, c_isnT, c_isnF, isNone_n, isNone_t, isNone_l, isNone_i, isNone_b, c_nel0, c_eql0, Bool.not_true, Bool.not_false, o_catL, o_catT, Nat.reduceLeDiff, ↓wz_mp, ↓wz_ms, layS_i, c_nes, c_eqs, b_gcd]
  refine WP.eq (nsk.ev n (by omega) sk M hs) ?_
  simp only [↓WP_ok, ↓WPO_some, ↓WPB_t, ↓WPB_f, ↓WP_end, ↓pst_q, ↓pso_q, ↓pth_p, ↓WPO_map, ↓wz_var, ↓wz_int, ↓wz_bl, ↓wz_non, ↓wz_str, ↓wz_gi, ↓wz_bin, ↓wz_neg, ↓wz_cmp, ↓wz_cmp2, ↓wz_conj, ↓wz_disj, ↓wz_not, ↓wz_ite, ↓wz_tup, ↓wz_lst, ↓wz_ix, ↓wz_rev, ↓wz_nop, ↓wz_call, ↓wz_blt, ↓wz_isi, ↓wz_lc, ↓wz_lcO, ↓wz_rng, ↓wz_zip, ↓wz_lrg, ↓wz_sst, ↓wz_enm, ↓wz_get, ↓wz_get2, ↓wz_esn, ↓wz_esc, ↓wz_pn, ↓wz_pc, ↓wz_mv, ↓wz_ml, ↓wz_mk, ↓wz_mt, ↓wz_asg1, ↓wz_asgt, ↓wz_new, ↓wz_par, ↓wz_put, ↓wz_app, ↓wz_aug, ↓wz_ex, ↓wz_ifs, ↓wz_fors, ↓wz_forO, ↓wz_whl, ↓wz_ret, ↓wz_retL, ↓wz_ret0, ↓wz_brk, ↓wz_cont, ↓wz_pass, ↓wz_ssn, ↓wz_ssc, ↓wz_fb, ↓wz_lcb, negD_i, notD_b, revD_l, revD_t, isiD_d, layL_cup, layL_l, sA_nil, sA_cons, nxt_nx, nxt_rt, nxt_bk, nxt_ct, view_d, o_add, o_sub, c_lt, c_le, c_gt, c_ge, c_eqi, c_nei, ix_t0, ix_t1, ix_t2, ix_l0, ix_l1, ix_c0, ix_c1, put_c0, put_c1, b_int, b_abs, b_lenT, b_lenL, b_tupL, b_tupT, b_lstL, b_lstT, b_lstS, b_min2, b_max2, someD_d, lcM_its, lcM_l, lcM_t, forM_its, forM_l, forM_t, WP_bind, guardR_t, bt_nm, bt_tp, bts_nil, bts_cons, wipe_nil, wipe_cons, tT0, tT1, tT2, tT3, tT4, tT5, tT6, tT7, tT8, tT9, tT10, tT11, tT12, tL0, tL1, tL2, tL3, tL4, tL5, tL6, tL7, tL8, tL9, tL10, tL11, tL12, tL13, tL14, tL15, tL16, opt_map_some, opt_bind_some, finF_d, finF_nx, List.getD_cons_zero, List.getD_cons_succ, List.set_cons_zero, List.set_cons_succ, List.map_cons, List.map_nil, List.length_cons, List.length_nil, List.cons_append, List.nil_append, List.replicate_succ, List.replicate_zero, Nat.reduceAdd, Nat.reduceSub, Nat.sub_self, ↓wz_lc2, ↓wz_lc2b, ↓wz_slJ, slF_i, slT_i, slB_i, slD_t, slD_l, lc2M_its, lc2M_l, lc2M_t, innL_its, innL_l, innL_t, isD_map, ↓wz_slF_int, ↓wz_slT_int, ↓wz_slB_int_int, ↓wz_slB_int_neg, ↓wz_slB_int_var, ↓wz_slB_int_bin, ↓wz_slB_int_ix, ↓wz_slF_neg, ↓wz_slT_neg, ↓wz_slB_neg_int, ↓wz_slB_neg_neg, ↓wz_slB_neg_var, ↓wz_slB_neg_bin, ↓wz_slB_neg_ix, ↓wz_slF_var, ↓wz_slT_var, ↓wz_slB_var_int, ↓wz_slB_var_neg, ↓wz_slB_var_var, ↓wz_slB_var_bin, ↓wz_slB_var_ix, ↓wz_slF_bin, ↓wz_slT_bin, ↓wz_slB_bin_int, ↓wz_slB_bin_neg, ↓wz_slB_bin_var, ↓wz_slB_bin_bin, ↓wz_slB_bin_ix, ↓wz_slF_ix, ↓wz_slT_ix, ↓wz_slB_ix_int, ↓wz_slB_ix_neg, ↓wz_slB_ix_var, ↓wz_slB_ix_bin, ↓wz_slB_ix_ix, ↓wz_slF_call, ↓wz_slT_call, ↓wz_slF_blt, ↓wz_slT_blt, ↓wz_lcn, ↓wz_lcc, ↓wz_forn, ↓wz_forc, consO_s, consO_n, forK_nx, forK_ct, forK_bk, forK_rt, c_isN, c_isnN, c_isT, c_isF, c_isnT, c_isnF, isNone_n, isNone_t, isNone_l, isNone_i, isNone_b, c_nel0, c_eql0, Bool.not_true, Bool.not_false, o_catL, o_catT, Nat.reduceLeDiff, ↓wz_mp, ↓wz_ms, layS_i, c_nes, c_eqs, b_gcd, len_sky]
  refine WP.eq (fso.ev n (by omega) (slen sk) _ M (by omega)) ?_
  simp only [↓WP_ok, ↓WPO_some, ↓WPB_t, ↓WPB_f, ↓WP_end, ↓pst_q, ↓pso_q, ↓pth_p, ↓WPO_map, ↓wz_var, ↓wz_int, ↓wz_bl, ↓wz_non, ↓wz_str, ↓wz_gi, ↓wz_bin, ↓wz_neg, ↓wz_cmp, ↓wz_cmp2, ↓wz_conj, ↓wz_disj, ↓wz_not, ↓wz_ite, ↓wz_tup, ↓wz_lst, ↓wz_ix, ↓wz_rev, ↓wz_nop, ↓wz_call, ↓wz_blt, ↓wz_isi, ↓wz_lc, ↓wz_lcO, ↓wz_rng, ↓wz_zip, ↓wz_lrg, ↓wz_sst, ↓wz_enm, ↓wz_get, ↓wz_get2, ↓wz_esn, ↓wz_esc, ↓wz_pn, ↓wz_pc, ↓wz_mv, ↓wz_ml, ↓wz_mk, ↓wz_mt, ↓wz_asg1, ↓wz_asgt, ↓wz_new, ↓wz_par, ↓wz_put, ↓wz_app, ↓wz_aug, ↓wz_ex, ↓wz_ifs, ↓wz_fors, ↓wz_forO, ↓wz_whl, ↓wz_ret, ↓wz_retL, ↓wz_ret0, ↓wz_brk, ↓wz_cont, ↓wz_pass, ↓wz_ssn, ↓wz_ssc, ↓wz_fb, ↓wz_lcb, negD_i, notD_b, revD_l, revD_t, isiD_d, layL_cup, layL_l, sA_nil, sA_cons, nxt_nx, nxt_rt, nxt_bk, nxt_ct, view_d, o_add, o_sub, c_lt, c_le, c_gt, c_ge, c_eqi, c_nei, ix_t0, ix_t1, ix_t2, ix_l0, ix_l1, ix_c0, ix_c1, put_c0, put_c1, b_int, b_abs, b_lenT, b_lenL, b_tupL, b_tupT, b_lstL, b_lstT, b_lstS, b_min2, b_max2, someD_d, lcM_its, lcM_l, lcM_t, forM_its, forM_l, forM_t, WP_bind, guardR_t, bt_nm, bt_tp, bts_nil, bts_cons, wipe_nil, wipe_cons, tT0, tT1, tT2, tT3, tT4, tT5, tT6, tT7, tT8, tT9, tT10, tT11, tT12, tL0, tL1, tL2, tL3, tL4, tL5, tL6, tL7, tL8, tL9, tL10, tL11, tL12, tL13, tL14, tL15, tL16, opt_map_some, opt_bind_some, finF_d, finF_nx, List.getD_cons_zero, List.getD_cons_succ, List.set_cons_zero, List.set_cons_succ, List.map_cons, List.map_nil, List.length_cons, List.length_nil, List.cons_append, List.nil_append, List.replicate_succ, List.replicate_zero, Nat.reduceAdd, Nat.reduceSub, Nat.sub_self, ↓wz_lc2, ↓wz_lc2b, ↓wz_slJ, slF_i, slT_i, slB_i, slD_t, slD_l, lc2M_its, lc2M_l, lc2M_t, innL_its, innL_l, innL_t, isD_map, ↓wz_slF_int, ↓wz_slT_int, ↓wz_slB_int_int, ↓wz_slB_int_neg, ↓wz_slB_int_var, ↓wz_slB_int_bin, ↓wz_slB_int_ix, ↓wz_slF_neg, ↓wz_slT_neg, ↓wz_slB_neg_int, ↓wz_slB_neg_neg, ↓wz_slB_neg_var, ↓wz_slB_neg_bin, ↓wz_slB_neg_ix, ↓wz_slF_var, ↓wz_slT_var, ↓wz_slB_var_int, ↓wz_slB_var_neg, ↓wz_slB_var_var, ↓wz_slB_var_bin, ↓wz_slB_var_ix, ↓wz_slF_bin, ↓wz_slT_bin, ↓wz_slB_bin_int, ↓wz_slB_bin_neg, ↓wz_slB_bin_var, ↓wz_slB_bin_bin, ↓wz_slB_bin_ix, ↓wz_slF_ix, ↓wz_slT_ix, ↓wz_slB_ix_int, ↓wz_slB_ix_neg, ↓wz_slB_ix_var, ↓wz_slB_ix_bin, ↓wz_slB_ix_ix, ↓wz_slF_call, ↓wz_slT_call, ↓wz_slF_blt, ↓wz_slT_blt, ↓wz_lcn, ↓wz_lcc, ↓wz_forn, ↓wz_forc, consO_s, consO_n, forK_nx, forK_ct, forK_bk, forK_rt, c_isN, c_isnN, c_isT, c_isF, c_isnT, c_isnF, isNone_n, isNone_t, isNone_l, isNone_i, isNone_b, c_nel0, c_eql0, Bool.not_true, Bool.not_false, o_catL, o_catT, Nat.reduceLeDiff, ↓wz_mp, ↓wz_ms, layS_i, c_nes, c_eqs, b_gcd, fits_lot h (by omega), Bool.not_true, take_all, and_self]
def hrow (sk : List (Int × Int)) (l : List Int) (t : Int) : PyData := .tuple (l.map fun s => .tuple [.int s, .int (ht (plc sk s + t))])
theorem lcM_intD {call : Nat → List D → Ms → Rs D} {ρ : Rho} {M : Ms} (elt : E) (tg : Tg) (cond : E) (vs : List Nat) (l : List Int) : lcM call elt tg cond vs ρ (.d (intD l)) M = (lcLoop (lcBody call elt tg cond vs ρ) (isD l) M).bind fun ys M6 => Rs.ok (.d (.list ys)) M6 := by
  unfold intD isD
  rw [lcM_t, List.map_map]
  rfl
theorem heights_ev {n : Nat} (hn : 6 ≤ n) {sk : List (Int × Int)} (hs : Sky 24 sk) {l : List Int} (h : Lot (slen sk) l) {t : Int} (h0 : 0 ≤ t) (h1 : t < 360) (M : Ms) : evFn fns WF n 14 [.d (skyD sk), .d (intD l), .d (.int t)] M = Rs.ok (.d (hrow sk l t)) M := by
  obtain ⟨n, rfl, hn'⟩ := lev hn
  rw [evF f_heights rfl rfl]
  simp only [f_heights]
  apply WP.to_eq
  simp only [↓WP_ok, ↓WPO_some, ↓WPB_t, ↓WPB_f, ↓WP_end, ↓pst_q, ↓pso_q, ↓pth_p, ↓WPO_map, ↓wz_var, ↓wz_int, ↓wz_bl, ↓wz_non, ↓wz_str, ↓wz_gi, ↓wz_bin, ↓wz_neg, ↓wz_cmp, ↓wz_cmp2, ↓wz_conj, ↓wz_disj, ↓wz_not, ↓wz_ite, ↓wz_tup, ↓wz_lst, ↓wz_ix, ↓wz_rev, ↓wz_nop, ↓wz_call, ↓wz_blt, ↓wz_isi, ↓wz_lc, ↓wz_lcO, ↓wz_rng, ↓wz_zip, ↓wz_lrg, ↓wz_sst, ↓wz_enm, ↓wz_get, ↓wz_get2, ↓wz_esn, ↓wz_esc, ↓wz_pn, ↓wz_pc, ↓wz_mv, ↓wz_ml, ↓wz_mk, ↓wz_mt, ↓wz_asg1, ↓wz_asgt, ↓wz_new, ↓wz_par, ↓wz_put, ↓wz_app, ↓wz_aug, ↓wz_ex, ↓wz_ifs, ↓wz_fors, ↓wz_forO, ↓wz_whl, ↓wz_ret, ↓wz_retL, ↓wz_ret0, ↓wz_brk, ↓wz_cont, ↓wz_pass, ↓wz_ssn, ↓wz_ssc, ↓wz_fb, ↓wz_lcb, negD_i, notD_b, revD_l, revD_t, isiD_d, layL_cup, layL_l, sA_nil, sA_cons, nxt_nx, nxt_rt, nxt_bk, nxt_ct, view_d, o_add, o_sub, c_lt, c_le, c_gt, c_ge, c_eqi, c_nei, ix_t0, ix_t1, ix_t2, ix_l0, ix_l1, ix_c0, ix_c1, put_c0, put_c1, b_int, b_abs, b_lenT, b_lenL, b_tupL, b_tupT, b_lstL, b_lstT, b_lstS, b_min2, b_max2, someD_d, lcM_its, lcM_l, lcM_t, forM_its, forM_l, forM_t, WP_bind, guardR_t, bt_nm, bt_tp, bts_nil, bts_cons, wipe_nil, wipe_cons, tT0, tT1, tT2, tT3, tT4, tT5, tT6, tT7, tT8, tT9, tT10, tT11, tT12, tL0, tL1, tL2, tL3, tL4, tL5, tL6, tL7, tL8, tL9, tL10, tL11, tL12, tL13, tL14, tL15, tL16, opt_map_some, opt_bind_some, finF_d, finF_nx, List.getD_cons_zero, List.getD_cons_succ, List.set_cons_zero, List.set_cons_succ, List.map_cons, List.map_nil, List.length_cons, List.length_nil, List.cons_append, List.nil_append, List.replicate_succ, List.replicate_zero, Nat.reduceAdd, Nat.reduceSub, Nat.sub_self, ↓wz_lc2, ↓wz_lc2b, ↓wz_slJ, slF_i, slT_i, slB_i, slD_t, slD_l, lc2M_its, lc2M_l, lc2M_t, innL_its, innL_l, innL_t, isD_map, ↓wz_slF_int, ↓wz_slT_int, ↓wz_slB_int_int, ↓wz_slB_int_neg, ↓wz_slB_int_var, ↓wz_slB_int_bin, ↓wz_slB_int_ix, ↓wz_slF_neg, ↓wz_slT_neg, ↓wz_slB_neg_int, ↓wz_slB_neg_neg, ↓wz_slB_neg_var, ↓wz_slB_neg_bin, ↓wz_slB_neg_ix, ↓wz_slF_var, ↓wz_slT_var, ↓wz_slB_var_int, ↓wz_slB_var_neg, ↓wz_slB_var_var, ↓wz_slB_var_bin, ↓wz_slB_var_ix, ↓wz_slF_bin, ↓wz_slT_bin, ↓wz_slB_bin_int, ↓wz_slB_bin_neg, ↓wz_slB_bin_var, ↓wz_slB_bin_bin, ↓wz_slB_bin_ix, ↓wz_slF_ix, ↓wz_slT_ix, ↓wz_slB_ix_int, ↓wz_slB_ix_neg, ↓wz_slB_ix_var, ↓wz_slB_ix_bin, ↓wz_slB_ix_ix, ↓wz_slF_call, ↓wz_slT_call, ↓wz_slF_blt, ↓wz_slT_blt, ↓wz_lcn, ↓wz_lcc, ↓wz_forn, ↓wz_forc, consO_s, consO_n, forK_nx, forK_ct, forK_bk, forK_rt, c_isN, c_isnN, c_isT, c_isF, c_isnT, c_isnF, isNone_n, isNone_t, isNone_l, isNone_i, isNone_b, c_nel0, c_eql0, Bool.not_true, Bool.not_false, o_catL, o_catT, Nat.reduceLeDiff, ↓wz_mp, ↓wz_ms, layS_i, c_nes, c_eqs, b_gcd]
  refine WP.eq (need_lot_ev (by omega) hs h M) ?_
  simp only [↓WP_ok, ↓WPO_some, ↓WPB_t, ↓WPB_f, ↓WP_end, ↓pst_q, ↓pso_q, ↓pth_p, ↓WPO_map, ↓wz_var, ↓wz_int, ↓wz_bl, ↓wz_non, ↓wz_str, ↓wz_gi, ↓wz_bin, ↓wz_neg, ↓wz_cmp, ↓wz_cmp2, ↓wz_conj, ↓wz_disj, ↓wz_not, ↓wz_ite, ↓wz_tup, ↓wz_lst, ↓wz_ix, ↓wz_rev, ↓wz_nop, ↓wz_call, ↓wz_blt, ↓wz_isi, ↓wz_lc, ↓wz_lcO, ↓wz_rng, ↓wz_zip, ↓wz_lrg, ↓wz_sst, ↓wz_enm, ↓wz_get, ↓wz_get2, ↓wz_esn, ↓wz_esc, ↓wz_pn, ↓wz_pc, ↓wz_mv, ↓wz_ml, ↓wz_mk, ↓wz_mt, ↓wz_asg1, ↓wz_asgt, ↓wz_new, ↓wz_par, ↓wz_put, ↓wz_app, ↓wz_aug, ↓wz_ex, ↓wz_ifs, ↓wz_fors, ↓wz_forO, ↓wz_whl, ↓wz_ret, ↓wz_retL, ↓wz_ret0, ↓wz_brk, ↓wz_cont, ↓wz_pass, ↓wz_ssn, ↓wz_ssc, ↓wz_fb, ↓wz_lcb, negD_i, notD_b, revD_l, revD_t, isiD_d, layL_cup, layL_l, sA_nil, sA_cons, nxt_nx, nxt_rt, nxt_bk, nxt_ct, view_d, o_add, o_sub, c_lt, c_le, c_gt, c_ge, c_eqi, c_nei, ix_t0, ix_t1, ix_t2, ix_l0, ix_l1, ix_c0, ix_c1, put_c0, put_c1, b_int, b_abs, b_lenT, b_lenL, b_tupL, b_tupT, b_lstL, b_lstT, b_lstS, b_min2, b_max2, someD_d, lcM_its, lcM_l, lcM_t, forM_its, forM_l, forM_t, WP_bind, guardR_t, bt_nm, bt_tp, bts_nil, bts_cons, wipe_nil, wipe_cons, tT0, tT1, tT2, tT3, tT4, tT5, tT6, tT7, tT8, tT9, tT10, tT11, tT12, tL0, tL1, tL2, tL3, tL4, tL5, tL6, tL7, tL8, tL9, tL10, tL11, tL12, tL13, tL14, tL15, tL16, opt_map_some, opt_bind_some, finF_d, finF_nx, List.getD_cons_zero, List.getD_cons_succ, List.set_cons_zero, List.set_cons_succ, List.map_cons, List.map_nil, List.length_cons, List.length_nil, List.cons_append, List.nil_append, List.replicate_succ, List.replicate_zero, Nat.reduceAdd, Nat.reduceSub, Nat.sub_self, ↓wz_lc2, ↓wz_lc2b, ↓wz_slJ, slF_i, slT_i, slB_i, slD_t, slD_l, lc2M_its, lc2M_l, lc2M_t, innL_its, innL_l, innL_t, isD_map, ↓wz_slF_int, ↓wz_slT_int, ↓wz_slB_int_int, ↓wz_slB_int_neg, ↓wz_slB_int_var, ↓wz_slB_int_bin, ↓wz_slB_int_ix, ↓wz_slF_neg, ↓wz_slT_neg, ↓wz_slB_neg_int, ↓wz_slB_neg_neg, ↓wz_slB_neg_var, ↓wz_slB_neg_bin, ↓wz_slB_neg_ix, ↓wz_slF_var, ↓wz_slT_var, ↓wz_slB_var_int, ↓wz_slB_var_neg, ↓wz_slB_var_var, ↓wz_slB_var_bin, ↓wz_slB_var_ix, ↓wz_slF_bin, ↓wz_slT_bin, ↓wz_slB_bin_int, ↓wz_slB_bin_neg, ↓wz_slB_bin_var, ↓wz_slB_bin_bin, ↓wz_slB_bin_ix, ↓wz_slF_ix, ↓wz_slT_ix, ↓wz_slB_ix_int, ↓wz_slB_ix_neg, ↓wz_slB_ix_var, ↓wz_slB_ix_bin, ↓wz_slB_ix_ix, ↓wz_slF_call, ↓wz_slT_call, ↓wz_slF_blt, ↓wz_slT_blt, ↓wz_lcn, ↓wz_lcc, ↓wz_forn, ↓wz_forc, consO_s, consO_n, forK_nx, forK_ct, forK_bk, forK_rt, c_isN, c_isnN, c_isT, c_isF, c_isnT, c_isnF, isNone_n, isNone_t, isNone_l, isNone_i, isNone_b, c_nel0, c_eql0, Bool.not_true, Bool.not_false, o_catL, o_catT, Nat.reduceLeDiff, ↓wz_mp, ↓wz_ms, layS_i, c_nes, c_eqs, b_gcd]
  refine WP.eq (need_step_ev (by omega) h0 h1 M) ?_
  simp only [↓WP_ok, ↓WPO_some, ↓WPB_t, ↓WPB_f, ↓WP_end, ↓pst_q, ↓pso_q, ↓pth_p, ↓WPO_map, ↓wz_var, ↓wz_int, ↓wz_bl, ↓wz_non, ↓wz_str, ↓wz_gi, ↓wz_bin, ↓wz_neg, ↓wz_cmp, ↓wz_cmp2, ↓wz_conj, ↓wz_disj, ↓wz_not, ↓wz_ite, ↓wz_tup, ↓wz_lst, ↓wz_ix, ↓wz_rev, ↓wz_nop, ↓wz_call, ↓wz_blt, ↓wz_isi, ↓wz_lc, ↓wz_lcO, ↓wz_rng, ↓wz_zip, ↓wz_lrg, ↓wz_sst, ↓wz_enm, ↓wz_get, ↓wz_get2, ↓wz_esn, ↓wz_esc, ↓wz_pn, ↓wz_pc, ↓wz_mv, ↓wz_ml, ↓wz_mk, ↓wz_mt, ↓wz_asg1, ↓wz_asgt, ↓wz_new, ↓wz_par, ↓wz_put, ↓wz_app, ↓wz_aug, ↓wz_ex, ↓wz_ifs, ↓wz_fors, ↓wz_forO, ↓wz_whl, ↓wz_ret, ↓wz_retL, ↓wz_ret0, ↓wz_brk, ↓wz_cont, ↓wz_pass, ↓wz_ssn, ↓wz_ssc, ↓wz_fb, ↓wz_lcb, negD_i, notD_b, revD_l, revD_t, isiD_d, layL_cup, layL_l, sA_nil, sA_cons, nxt_nx, nxt_rt, nxt_bk, nxt_ct, view_d, o_add, o_sub, c_lt, c_le, c_gt, c_ge, c_eqi, c_nei, ix_t0, ix_t1, ix_t2, ix_l0, ix_l1, ix_c0, ix_c1, put_c0, put_c1, b_int, b_abs, b_lenT, b_lenL, b_tupL, b_tupT, b_lstL, b_lstT, b_lstS, b_min2, b_max2, someD_d, lcM_its, lcM_l, lcM_t, forM_its, forM_l, forM_t, WP_bind, guardR_t, bt_nm, bt_tp, bts_nil, bts_cons, wipe_nil, wipe_cons, tT0, tT1, tT2, tT3, tT4, tT5, tT6, tT7, tT8, tT9, tT10, tT11, tT12, tL0, tL1, tL2, tL3, tL4, tL5, tL6, tL7, tL8, tL9, tL10, tL11, tL12, tL13, tL14, tL15, tL16, opt_map_some, opt_bind_some, finF_d, finF_nx, List.getD_cons_zero, List.getD_cons_succ, List.set_cons_zero, List.set_cons_succ, List.map_cons, List.map_nil, List.length_cons, List.length_nil, List.cons_append, List.nil_append, List.replicate_succ, List.replicate_zero, Nat.reduceAdd, Nat.reduceSub, Nat.sub_self, ↓wz_lc2, ↓wz_lc2b, ↓wz_slJ, slF_i, slT_i, slB_i, slD_t, slD_l, lc2M_its, lc2M_l, lc2M_t, innL_its, innL_l, innL_t, isD_map, ↓wz_slF_int, ↓wz_slT_int, ↓wz_slB_int_int, ↓wz_slB_int_neg, ↓wz_slB_int_var, ↓wz_slB_int_bin, ↓wz_slB_int_ix, ↓wz_slF_neg, ↓wz_slT_neg, ↓wz_slB_neg_int, ↓wz_slB_neg_neg, ↓wz_slB_neg_var, ↓wz_slB_neg_bin, ↓wz_slB_neg_ix, ↓wz_slF_var, ↓wz_slT_var, ↓wz_slB_var_int, ↓wz_slB_var_neg, ↓wz_slB_var_var, ↓wz_slB_var_bin, ↓wz_slB_var_ix, ↓wz_slF_bin, ↓wz_slT_bin, ↓wz_slB_bin_int, ↓wz_slB_bin_neg, ↓wz_slB_bin_var, ↓wz_slB_bin_bin, ↓wz_slB_bin_ix, ↓wz_slF_ix, ↓wz_slT_ix, ↓wz_slB_ix_int, ↓wz_slB_ix_neg, ↓wz_slB_ix_var, ↓wz_slB_ix_bin, ↓wz_slB_ix_ix, ↓wz_slF_call, ↓wz_slT_call, ↓wz_slF_blt, ↓wz_slT_blt, ↓wz_lcn, ↓wz_lcc, ↓wz_forn, ↓wz_forc, consO_s, consO_n, forK_nx, forK_ct, forK_bk, forK_rt, c_isN, c_isnN, c_isT, c_isF, c_isnT, c_isnF, isNone_n, isNone_t, isNone_l, isNone_i, isNone_b, c_nel0, c_eql0, Bool.not_true, Bool.not_false, o_catL, o_catT, Nat.reduceLeDiff, ↓wz_mp, ↓wz_ms, layS_i, c_nes, c_eqs, b_gcd, lcM_intD]
  refine WP.lcZ (fun s => .tuple [.int s, .int (ht (plc sk s + t))]) (fun s hs => ?_) ?_
  · simp only [↓WP_ok, ↓WPO_some, ↓WPB_t, ↓WPB_f, ↓WP_end, ↓pst_q, ↓pso_q, ↓pth_p, ↓WPO_map, ↓wz_var, ↓wz_int, ↓wz_bl, ↓wz_non, ↓wz_str, ↓wz_gi, ↓wz_bin, ↓wz_neg, ↓wz_cmp, ↓wz_cmp2, ↓wz_conj, ↓wz_disj, ↓wz_not, ↓wz_ite, ↓wz_tup, ↓wz_lst, ↓wz_ix, ↓wz_rev, ↓wz_nop, ↓wz_call, ↓wz_blt, ↓wz_isi, ↓wz_lc, ↓wz_lcO, ↓wz_rng, ↓wz_zip, ↓wz_lrg, ↓wz_sst, ↓wz_enm, ↓wz_get, ↓wz_get2, ↓wz_esn, ↓wz_esc, ↓wz_pn, ↓wz_pc, ↓wz_mv, ↓wz_ml, ↓wz_mk, ↓wz_mt, ↓wz_asg1, ↓wz_asgt, ↓wz_new, ↓wz_par, ↓wz_put, ↓wz_app, ↓wz_aug, ↓wz_ex, ↓wz_ifs, ↓wz_fors, ↓wz_forO, ↓wz_whl, ↓wz_ret, ↓wz_retL, ↓wz_ret0, ↓wz_brk, ↓wz_cont, ↓wz_pass, ↓wz_ssn, ↓wz_ssc, ↓wz_fb, ↓wz_lcb, negD_i, notD_b, revD_l, revD_t, isiD_d, layL_cup, layL_l, sA_nil, sA_cons, nxt_nx, nxt_rt, nxt_bk, nxt_ct, view_d, o_add, o_sub, c_lt, c_le, c_gt, c_ge, c_eqi, c_nei, ix_t0, ix_t1, ix_t2, ix_l0, ix_l1, ix_c0, ix_c1, put_c0, put_c1, b_int, b_abs, b_lenT, b_lenL, b_tupL, b_tupT, b_lstL, b_lstT, b_lstS, b_min2, b_max2, someD_d, lcM_its, lcM_l, lcM_t, forM_its, forM_l, forM_t, WP_bind, guardR_t, bt_nm, bt_tp, bts_nil, bts_cons, wipe_nil, wipe_cons, tT0, tT1, tT2, tT3, tT4, tT5, tT6, tT7, tT8, tT9, tT10, tT11, tT12, tL0, tL1, tL2, tL3, tL4, tL5, tL6, tL7, tL8, tL9, tL10, tL11, tL12, tL13, tL14, tL15, tL16, opt_map_some, opt_bind_some, finF_d, finF_nx, List.getD_cons_zero, List.getD_cons_succ, List.set_cons_zero, List.set_cons_succ, List.map_cons, List.map_nil, List.length_cons, List.length_nil, List.cons_append, List.nil_append, List.replicate_succ, List.replicate_zero, Nat.reduceAdd, Nat.reduceSub, Nat.sub_self, ↓wz_lc2, ↓wz_lc2b, ↓wz_slJ, slF_i, slT_i, slB_i, slD_t, slD_l, lc2M_its, lc2M_l, lc2M_t, innL_its, innL_l, innL_t, isD_map, ↓wz_slF_int, ↓wz_slT_int, ↓wz_slB_int_int, ↓wz_slB_int_neg, ↓wz_slB_int_var, ↓wz_slB_int_bin, ↓wz_slB_int_ix, ↓wz_slF_neg, ↓wz_slT_neg, ↓wz_slB_neg_int, ↓wz_slB_neg_neg, ↓wz_slB_neg_var, ↓wz_slB_neg_bin, ↓wz_slB_neg_ix, ↓wz_slF_var, ↓wz_slT_var, ↓wz_slB_var_int, ↓wz_slB_var_neg, ↓wz_slB_var_var, ↓wz_slB_var_bin, ↓wz_slB_var_ix, ↓wz_slF_bin, ↓wz_slT_bin, ↓wz_slB_bin_int, ↓wz_slB_bin_neg, ↓wz_slB_bin_var, ↓wz_slB_bin_bin, ↓wz_slB_bin_ix, ↓wz_slF_ix, ↓wz_slT_ix, ↓wz_slB_ix_int, ↓wz_slB_ix_neg, ↓wz_slB_ix_var, ↓wz_slB_ix_bin, ↓wz_slB_ix_ix, ↓wz_slF_call, ↓wz_slT_call, ↓wz_slF_blt, ↓wz_slT_blt, ↓wz_lcn, ↓wz_lcc, ↓wz_forn, ↓wz_forc, consO_s, consO_n, forK_nx, forK_ct, forK_bk, forK_rt, c_isN, c_isnN, c_isT, c_isF, c_isnT, c_isnF, isNone_n, isNone_t, isNone_l, isNone_i, isNone_b, c_nel0, c_eql0, Bool.not_true, Bool.not_false, o_catL, o_catT, Nat.reduceLeDiff, ↓wz_mp, ↓wz_ms, layS_i, c_nes, c_eqs, b_gcd]
    refine WP.eq (height_in_ev (by omega) (h.ok s hs).1 (h.ok s hs).2 t M) ?_
    simp only [↓WP_ok, ↓WPO_some, ↓WPB_t, ↓WPB_f, ↓WP_end, ↓pst_q, ↓pso_q, ↓pth_p, ↓WPO_map, ↓wz_var, ↓wz_int, ↓wz_bl, ↓wz_non, ↓wz_str, ↓wz_gi, ↓wz_bin, ↓wz_neg, ↓wz_cmp, ↓wz_cmp2, ↓wz_conj, ↓wz_disj, ↓wz_not, ↓wz_ite, ↓wz_tup, ↓wz_lst, ↓wz_ix, ↓wz_rev, ↓wz_nop, ↓wz_call, ↓wz_blt, ↓wz_isi, ↓wz_lc, ↓wz_lcO, ↓wz_rng, ↓wz_zip, ↓wz_lrg, ↓wz_sst, ↓wz_enm, ↓wz_get, ↓wz_get2, ↓wz_esn, ↓wz_esc, ↓wz_pn, ↓wz_pc, ↓wz_mv, ↓wz_ml, ↓wz_mk, ↓wz_mt, ↓wz_asg1, ↓wz_asgt, ↓wz_new, ↓wz_par, ↓wz_put, ↓wz_app, ↓wz_aug, ↓wz_ex, ↓wz_ifs, ↓wz_fors, ↓wz_forO, ↓wz_whl, ↓wz_ret, ↓wz_retL, ↓wz_ret0, ↓wz_brk, ↓wz_cont, ↓wz_pass, ↓wz_ssn, ↓wz_ssc, ↓wz_fb, ↓wz_lcb, negD_i, notD_b, revD_l, revD_t, isiD_d, layL_cup, layL_l, sA_nil, sA_cons, nxt_nx, nxt_rt, nxt_bk, nxt_ct, view_d, o_add, o_sub, c_lt, c_le, c_gt, c_ge, c_eqi, c_nei, ix_t0, ix_t1, ix_t2, ix_l0, ix_l1, ix_c0, ix_c1, put_c0, put_c1, b_int, b_abs, b_lenT, b_lenL, b_tupL, b_tupT, b_lstL, b_lstT, b_lstS, b_min2, b_max2, someD_d, lcM_its, lcM_l, lcM_t, forM_its, forM_l, forM_t, WP_bind, guardR_t, bt_nm, bt_tp, bts_nil, bts_cons, wipe_nil, wipe_cons, tT0, tT1, tT2, tT3, tT4, tT5, tT6, tT7, tT8, tT9, tT10, tT11, tT12, tL0, tL1, tL2, tL3, tL4, tL5, tL6, tL7, tL8, tL9, tL10, tL11, tL12, tL13, tL14, tL15, tL16, opt_map_some, opt_bind_some, finF_d, finF_nx, List.getD_cons_zero, List.getD_cons_succ, List.set_cons_zero, List.set_cons_succ, List.map_cons, List.map_nil, List.length_cons, List.length_nil, List.cons_append, List.nil_append, List.replicate_succ, List.replicate_zero, Nat.reduceAdd, Nat.reduceSub, Nat.sub_self, ↓wz_lc2, ↓wz_lc2b, ↓wz_slJ, slF_i, slT_i, slB_i, slD_t, slD_l, lc2M_its, lc2M_l, lc2M_t, innL_its, innL_l, innL_t, isD_map, ↓wz_slF_int, ↓wz_slT_int, ↓wz_slB_int_int, ↓wz_slB_int_neg, ↓wz_slB_int_var, ↓wz_slB_int_bin, ↓wz_slB_int_ix, ↓wz_slF_neg, ↓wz_slT_neg, ↓wz_slB_neg_int, ↓wz_slB_neg_neg, ↓wz_slB_neg_var, ↓wz_slB_neg_bin, ↓wz_slB_neg_ix, ↓wz_slF_var, ↓wz_slT_var, ↓wz_slB_var_int, ↓wz_slB_var_neg, ↓wz_slB_var_var, ↓wz_slB_var_bin, ↓wz_slB_var_ix, ↓wz_slF_bin, ↓wz_slT_bin, ↓wz_slB_bin_int, ↓wz_slB_bin_neg, ↓wz_slB_bin_var, ↓wz_slB_bin_bin, ↓wz_slB_bin_ix, ↓wz_slF_ix, ↓wz_slT_ix, ↓wz_slB_ix_int, ↓wz_slB_ix_neg, ↓wz_slB_ix_var, ↓wz_slB_ix_bin, ↓wz_slB_ix_ix, ↓wz_slF_call, ↓wz_slT_call, ↓wz_slF_blt, ↓wz_slT_blt, ↓wz_lcn, ↓wz_lcc, ↓wz_forn, ↓wz_forc, consO_s, consO_n, forK_nx, forK_ct, forK_bk, forK_rt, c_isN, c_isnN, c_isT, c_isF, c_isnT, c_isnF, isNone_n, isNone_t, isNone_l, isNone_i, isNone_b, c_nel0, c_eql0, Bool.not_true, Bool.not_false, o_catL, o_catT, Nat.reduceLeDiff, ↓wz_mp, ↓wz_ms, layS_i, c_nes, c_eqs, b_gcd, and_self]
  · simp only [↓WP_ok, ↓WPO_some, ↓WPB_t, ↓WPB_f, ↓WP_end, ↓pst_q, ↓pso_q, ↓pth_p, ↓WPO_map, ↓wz_var, ↓wz_int, ↓wz_bl, ↓wz_non, ↓wz_str, ↓wz_gi, ↓wz_bin, ↓wz_neg, ↓wz_cmp, ↓wz_cmp2, ↓wz_conj, ↓wz_disj, ↓wz_not, ↓wz_ite, ↓wz_tup, ↓wz_lst, ↓wz_ix, ↓wz_rev, ↓wz_nop, ↓wz_call, ↓wz_blt, ↓wz_isi, ↓wz_lc, ↓wz_lcO, ↓wz_rng, ↓wz_zip, ↓wz_lrg, ↓wz_sst, ↓wz_enm, ↓wz_get, ↓wz_get2, ↓wz_esn, ↓wz_esc, ↓wz_pn, ↓wz_pc, ↓wz_mv, ↓wz_ml, ↓wz_mk, ↓wz_mt, ↓wz_asg1, ↓wz_asgt, ↓wz_new, ↓wz_par, ↓wz_put, ↓wz_app, ↓wz_aug, ↓wz_ex, ↓wz_ifs, ↓wz_fors, ↓wz_forO, ↓wz_whl, ↓wz_ret, ↓wz_retL, ↓wz_ret0, ↓wz_brk, ↓wz_cont, ↓wz_pass, ↓wz_ssn, ↓wz_ssc, ↓wz_fb, ↓wz_lcb, negD_i, notD_b, revD_l, revD_t, isiD_d, layL_cup, layL_l, sA_nil, sA_cons, nxt_nx, nxt_rt, nxt_bk, nxt_ct, view_d, o_add, o_sub, c_lt, c_le, c_gt, c_ge, c_eqi, c_nei, ix_t0, ix_t1, ix_t2, ix_l0, ix_l1, ix_c0, ix_c1, put_c0, put_c1, b_int, b_abs, b_lenT, b_lenL, b_tupL, b_tupT, b_lstL, b_lstT, b_lstS, b_min2, b_max2, someD_d, lcM_its, lcM_l, lcM_t, forM_its, forM_l, forM_t, WP_bind, guardR_t, bt_nm, bt_tp, bts_nil, bts_cons, wipe_nil, wipe_cons, tT0, tT1, tT2, tT3, tT4, tT5, tT6, tT7, tT8, tT9, tT10, tT11, tT12, tL0, tL1, tL2, tL3, tL4, tL5, tL6, tL7, tL8, tL9, tL10, tL11, tL12, tL13, tL14, tL15, tL16, opt_map_some, opt_bind_some, finF_d, finF_nx, List.getD_cons_zero, List.getD_cons_succ, List.set_cons_zero, List.set_cons_succ, List.map_cons, List.map_nil, List.length_cons, List.length_nil, List.cons_append, List.nil_append, List.replicate_succ, List.replicate_zero, Nat.reduceAdd, Nat.reduceSub, Nat.sub_self, ↓wz_lc2, ↓wz_lc2b, ↓wz_slJ, slF_i, slT_i, slB_i, slD_t, slD_l, lc2M_its, lc2M_l, lc2M_t, innL_its, innL_l, innL_t, isD_map, ↓wz_slF_int, ↓wz_slT_int, ↓wz_slB_int_int, ↓wz_slB_int_neg, ↓wz_slB_int_var, ↓wz_slB_int_bin, ↓wz_slB_int_ix, ↓wz_slF_neg, ↓wz_slT_neg, ↓wz_slB_neg_int, ↓wz_slB_neg_neg, ↓wz_slB_neg_var, ↓wz_slB_neg_bin, ↓wz_slB_neg_ix, ↓wz_slF_var, ↓wz_slT_var, ↓wz_slB_var_int, ↓wz_slB_var_neg, ↓wz_slB_var_var, ↓wz_slB_var_bin, ↓wz_slB_var_ix, ↓wz_slF_bin, ↓wz_slT_bin, ↓wz_slB_bin_int, ↓wz_slB_bin_neg, ↓wz_slB_bin_var, ↓wz_slB_bin_bin, ↓wz_slB_bin_ix, ↓wz_slF_ix, ↓wz_slT_ix, ↓wz_slB_ix_int, ↓wz_slB_ix_neg, ↓wz_slB_ix_var, ↓wz_slB_ix_bin, ↓wz_slB_ix_ix, ↓wz_slF_call, ↓wz_slT_call, ↓wz_slF_blt, ↓wz_slT_blt, ↓wz_lcn, ↓wz_lcc, ↓wz_forn, ↓wz_forc, consO_s, consO_n, forK_nx, forK_ct, forK_bk, forK_rt, c_isN, c_isnN, c_isT, c_isF, c_isnT, c_isnF, isNone_n, isNone_t, isNone_l, isNone_i, isNone_b, c_nel0, c_eql0, Bool.not_true, Bool.not_false, o_catL, o_catT, Nat.reduceLeDiff, ↓wz_mp, ↓wz_ms, layS_i, c_nes, c_eqs, b_gcd, take_all, and_true]
    rfl
/-! heights that are seen -/
def fstD (v : PyData) : PyData := match v with
  | .tuple (a :: _) => a
  | _ => .none
def sndD (v : PyData) : PyData := match v with
  | .tuple (_ :: b :: _) => b
  | _ => .none
def fitsSeen (many : Int) (v : PyData) : Bool := match v with
  | .tuple xs => isTp v 1 many && xs.all (fun x => isTp x 2 2) && xs.all (fun x => isW (sndD x) (-90) 90) && fitsSome many (.tuple (xs.map fstD))
  | _ => false
theorem fitsSeen_t (many : Int) (xs : List PyData) : fitsSeen many (.tuple xs) = (isTp (.tuple xs) 1 many && xs.all (fun x => isTp x 2 2) && xs.all (fun x => isW (sndD x) (-90) 90) && fitsSome many (.tuple (xs.map fstD))) := rfl
theorem isTp2 {x : PyData} (h : isTp x 2 2 = true) : x = .tuple [fstD x, sndD x] := by
  cases x with
  | tuple xs =>
    simp only [isTp, Bool.and_eq_true, decide_eq_true_eq] at h
    match xs with
    | [] => simp at h
    | [a] => simp at h
    | [a, b] => rfl
    | a :: b :: c :: r => simp at h; omega
  | _ => cases h
theorem all2 {xs : List PyData} (h : xs.all (fun x => isTp x 2 2) = true) : ∀ x ∈ xs, x = .tuple [fstD x, sndD x] := fun x hx => isTp2 (List.all_eq_true.mp h x hx)
theorem WP.allI {call : Nat → List D → Ms → Rs D} {ρ : Rho} {M : Ms} {elt : E} {j : Nat} {f : PyData → Bool} {xs : List PyData} {Q : Pst (List PyData)} (h : ∀ x ∈ xs, WP (ev call elt ((wipeR ρ [j]).set j (some (.d x))) M) (Q := ⟨fun d M' => d = .d (.bool (f x)) ∧ M' = M⟩))
    (q : Q.q (xs.map fun x => .bool (f x)) M) : WP (lcLoop (lcBody call elt (.nm j) .nop [j] ρ) (xs.map .d) M) (Q := Q) :=
  WP.eq (all_items fun x hx => (h x hx).to_eq) q
theorem fits_seen_ev {n : Nat} (hn : 3 ≤ n) {sk : List (Int × Int)} (hs : Sky 24 sk) (v : PyData) (M : Ms) : evFn fns WF n 10 [.d (skyD sk), .d v] M = Rs.ok (.d (.bool (fitsSeen (slen sk) v))) M := by
  obtain ⟨n, rfl, hn'⟩ := lev hn
  rw [evF f_fits_seen rfl rfl]
  simp only [f_fits_seen]
  have hl := slen_ok hs
  apply WP.to_eq
  simp only [↓WP_ok, ↓WPO_some, ↓WPB_t, ↓WPB_f, ↓WP_end, ↓pst_q, ↓pso_q, ↓pth_p, ↓WPO_map, ↓wz_var, ↓wz_int, ↓wz_bl, ↓wz_non, ↓wz_str, ↓wz_gi, ↓wz_bin, ↓wz_neg, ↓wz_cmp, ↓wz_cmp2, ↓wz_conj, ↓wz_disj, ↓wz_not, ↓wz_ite, ↓wz_tup, ↓wz_lst, ↓wz_ix, ↓wz_rev, ↓wz_nop, ↓wz_call, ↓wz_blt, ↓wz_isi, ↓wz_lc, ↓wz_lcO, ↓wz_rng, ↓wz_zip, ↓wz_lrg, ↓wz_sst, ↓wz_enm, ↓wz_get, ↓wz_get2, ↓wz_esn, ↓wz_esc, ↓wz_pn, ↓wz_pc, ↓wz_mv, ↓wz_ml, ↓wz_mk, ↓wz_mt, ↓wz_asg1, ↓wz_asgt, ↓wz_new, ↓wz_par, ↓wz_put, ↓wz_app, ↓wz_aug, ↓wz_ex, ↓wz_ifs, ↓wz_fors, ↓wz_forO, ↓wz_whl, ↓wz_ret, ↓wz_retL, ↓wz_ret0, ↓wz_brk, ↓wz_cont, ↓wz_pass, ↓wz_ssn, ↓wz_ssc, ↓wz_fb, ↓wz_lcb, negD_i, notD_b, revD_l, revD_t, isiD_d, layL_cup, layL_l, sA_nil, sA_cons, nxt_nx, nxt_rt, nxt_bk, nxt_ct, view_d, o_add, o_sub, c_lt, c_le, c_gt, c_ge, c_eqi, c_nei, ix_t0, ix_t1, ix_t2, ix_l0, ix_l1, ix_c0, ix_c1, put_c0, put_c1, b_int, b_abs, b_lenT, b_lenL, b_tupL, b_tupT, b_lstL, b_lstT, b_lstS, b_min2, b_max2, someD_d, lcM_its, lcM_l, lcM_t, forM_its, forM_l, forM_t, WP_bind, guardR_t, bt_nm, bt_tp, bts_nil, bts_cons, wipe_nil, wipe_cons, tT0, tT1, tT2, tT3, tT4, tT5, tT6, tT7, tT8, tT9, tT10, tT11, tT12, tL0, tL1, tL2, tL3, tL4, tL5, tL6, tL7, tL8, tL9, tL10, tL11, tL12, tL13, tL14, tL15, tL16, opt_map_some, opt_bind_some, finF_d, finF_nx, List.getD_cons_zero, List.getD_cons_succ, List.set_cons_zero, List.set_cons_succ, List.map_cons, List.map_nil, List.length_cons, List.length_nil, List.cons_append, List.nil_append, List.replicate_succ, List.replicate_zero, Nat.reduceAdd, Nat.reduceSub, Nat.sub_self, ↓wz_lc2, ↓wz_lc2b, ↓wz_slJ, slF_i, slT_i, slB_i, slD_t, slD_l, lc2M_its, lc2M_l, lc2M_t, innL_its, innL_l, innL_t, isD_map, ↓wz_slF_int, ↓wz_slT_int, ↓wz_slB_int_int, ↓wz_slB_int_neg, ↓wz_slB_int_var, ↓wz_slB_int_bin, ↓wz_slB_int_ix, ↓wz_slF_neg, ↓wz_slT_neg, ↓wz_slB_neg_int, ↓wz_slB_neg_neg, ↓wz_slB_neg_var, ↓wz_slB_neg_bin, ↓wz_slB_neg_ix, ↓wz_slF_var, ↓wz_slT_var, ↓wz_slB_var_int, ↓wz_slB_var_neg, ↓wz_slB_var_var, ↓wz_slB_var_bin, ↓wz_slB_var_ix, ↓wz_slF_bin, ↓wz_slT_bin, ↓wz_slB_bin_int, ↓wz_slB_bin_neg, ↓wz_slB_bin_var, ↓wz_slB_bin_bin, ↓wz_slB_bin_ix, ↓wz_slF_ix, ↓wz_slT_ix, ↓wz_slB_ix_int, ↓wz_slB_ix_neg, ↓wz_slB_ix_var, ↓wz_slB_ix_bin, ↓wz_slB_ix_ix, ↓wz_slF_call, ↓wz_slT_call, ↓wz_slF_blt, ↓wz_slT_blt, ↓wz_lcn, ↓wz_lcc, ↓wz_forn, ↓wz_forc, consO_s, consO_n, forK_nx, forK_ct, forK_bk, forK_rt, c_isN, c_isnN, c_isT, c_isF, c_isnT, c_isnF, isNone_n, isNone_t, isNone_l, isNone_i, isNone_b, c_nel0, c_eql0, Bool.not_true, Bool.not_false, o_catL, o_catT, Nat.reduceLeDiff, ↓wz_mp, ↓wz_ms, layS_i, c_nes, c_eqs, b_gcd, len_sky]
  refine WP.eq (tu.ev n (by omega) _ _ _ _) ?_
  simp only [↓WP_ok, ↓WPO_some, ↓WPB_t, ↓WPB_f, ↓WP_end, ↓pst_q, ↓pso_q, ↓pth_p, ↓WPO_map, ↓wz_var, ↓wz_int, ↓wz_bl, ↓wz_non, ↓wz_str, ↓wz_gi, ↓wz_bin, ↓wz_neg, ↓wz_cmp, ↓wz_cmp2, ↓wz_conj, ↓wz_disj, ↓wz_not, ↓wz_ite, ↓wz_tup, ↓wz_lst, ↓wz_ix, ↓wz_rev, ↓wz_nop, ↓wz_call, ↓wz_blt, ↓wz_isi, ↓wz_lc, ↓wz_lcO, ↓wz_rng, ↓wz_zip, ↓wz_lrg, ↓wz_sst, ↓wz_enm, ↓wz_get, ↓wz_get2, ↓wz_esn, ↓wz_esc, ↓wz_pn, ↓wz_pc, ↓wz_mv, ↓wz_ml, ↓wz_mk, ↓wz_mt, ↓wz_asg1, ↓wz_asgt, ↓wz_new, ↓wz_par, ↓wz_put, ↓wz_app, ↓wz_aug, ↓wz_ex, ↓wz_ifs, ↓wz_fors, ↓wz_forO, ↓wz_whl, ↓wz_ret, ↓wz_retL, ↓wz_ret0, ↓wz_brk, ↓wz_cont, ↓wz_pass, ↓wz_ssn, ↓wz_ssc, ↓wz_fb, ↓wz_lcb, negD_i, notD_b, revD_l, revD_t, isiD_d, layL_cup, layL_l, sA_nil, sA_cons, nxt_nx, nxt_rt, nxt_bk, nxt_ct, view_d, o_add, o_sub, c_lt, c_le, c_gt, c_ge, c_eqi, c_nei, ix_t0, ix_t1, ix_t2, ix_l0, ix_l1, ix_c0, ix_c1, put_c0, put_c1, b_int, b_abs, b_lenT, b_lenL, b_tupL, b_tupT, b_lstL, b_lstT, b_lstS, b_min2, b_max2, someD_d, lcM_its, lcM_l, lcM_t, forM_its, forM_l, forM_t, WP_bind, guardR_t, bt_nm, bt_tp, bts_nil, bts_cons, wipe_nil, wipe_cons, tT0, tT1, tT2, tT3, tT4, tT5, tT6, tT7, tT8, tT9, tT10, tT11, tT12, tL0, tL1, tL2, tL3, tL4, tL5, tL6, tL7, tL8, tL9, tL10, tL11, tL12, tL13, tL14, tL15, tL16, opt_map_some, opt_bind_some, finF_d, finF_nx, List.getD_cons_zero, List.getD_cons_succ, List.set_cons_zero, List.set_cons_succ, List.map_cons, List.map_nil, List.length_cons, List.length_nil, List.cons_append, List.nil_append, List.replicate_succ, List.replicate_zero, Nat.reduceAdd, Nat.reduceSub, Nat.sub_self, ↓wz_lc2, ↓wz_lc2b, ↓wz_slJ, slF_i, slT_i, slB_i, slD_t, slD_l, lc2M_its, lc2M_l, lc2M_t, innL_its, innL_l, innL_t, isD_map, ↓wz_slF_int, ↓wz_slT_int, ↓wz_slB_int_int, ↓wz_slB_int_neg, ↓wz_slB_int_var, ↓wz_slB_int_bin, ↓wz_slB_int_ix, ↓wz_slF_neg, ↓wz_slT_neg, ↓wz_slB_neg_int, ↓wz_slB_neg_neg, ↓wz_slB_neg_var, ↓wz_slB_neg_bin, ↓wz_slB_neg_ix, ↓wz_slF_var, ↓wz_slT_var, ↓wz_slB_var_int, ↓wz_slB_var_neg, ↓wz_slB_var_var, ↓wz_slB_var_bin, ↓wz_slB_var_ix, ↓wz_slF_bin, ↓wz_slT_bin, ↓wz_slB_bin_int, ↓wz_slB_bin_neg, ↓wz_slB_bin_var, ↓wz_slB_bin_bin, ↓wz_slB_bin_ix, ↓wz_slF_ix, ↓wz_slT_ix, ↓wz_slB_ix_int, ↓wz_slB_ix_neg, ↓wz_slB_ix_var, ↓wz_slB_ix_bin, ↓wz_slB_ix_ix, ↓wz_slF_call, ↓wz_slT_call, ↓wz_slF_blt, ↓wz_slT_blt, ↓wz_lcn, ↓wz_lcc, ↓wz_forn, ↓wz_forc, consO_s, consO_n, forK_nx, forK_ct, forK_bk, forK_rt, c_isN, c_isnN, c_isT, c_isF, c_isnT, c_isnF, isNone_n, isNone_t, isNone_l, isNone_i, isNone_b, c_nel0, c_eql0, Bool.not_true, Bool.not_false, o_catL, o_catT, Nat.reduceLeDiff, ↓wz_mp, ↓wz_ms, layS_i, c_nes, c_eqs, b_gcd]
  cases v with
  | tuple xs =>
    cases h1 : isTp (.tuple xs) 1 (slen sk) with
    | false =>
      have e : fitsSeen (slen sk) (.tuple xs) = false := by rw [fitsSeen_t, h1]; rfl
      simp only [↓WP_ok, ↓WPO_some, ↓WPB_t, ↓WPB_f, ↓WP_end, ↓pst_q, ↓pso_q, ↓pth_p, ↓WPO_map, ↓wz_var, ↓wz_int, ↓wz_bl, ↓wz_non, ↓wz_str, ↓wz_gi, ↓wz_bin, ↓wz_neg, ↓wz_cmp, ↓wz_cmp2, ↓wz_conj, ↓wz_disj, ↓wz_not, ↓wz_ite, ↓wz_tup, ↓wz_lst, ↓wz_ix, ↓wz_rev, ↓wz_nop, ↓wz_call, ↓wz_blt, ↓wz_isi, ↓wz_lc, ↓wz_lcO, ↓wz_rng, ↓wz_zip, ↓wz_lrg, ↓wz_sst, ↓wz_enm, ↓wz_get, ↓wz_get2, ↓wz_esn, ↓wz_esc, ↓wz_pn, ↓wz_pc, ↓wz_mv, ↓wz_ml, ↓wz_mk, ↓wz_mt, ↓wz_asg1, ↓wz_asgt, ↓wz_new, ↓wz_par, ↓wz_put, ↓wz_app, ↓wz_aug, ↓wz_ex, ↓wz_ifs, ↓wz_fors, ↓wz_forO, ↓wz_whl, ↓wz_ret, ↓wz_retL, ↓wz_ret0, ↓wz_brk, ↓wz_cont, ↓wz_pass, ↓wz_ssn, ↓wz_ssc, ↓wz_fb, ↓wz_lcb, negD_i, notD_b, revD_l, revD_t, isiD_d, layL_cup, layL_l, sA_nil, sA_cons, nxt_nx, nxt_rt, nxt_bk, nxt_ct, view_d, o_add, o_sub, c_lt, c_le, c_gt, c_ge, c_eqi, c_nei, ix_t0, ix_t1, ix_t2, ix_l0, ix_l1, ix_c0, ix_c1, put_c0, put_c1, b_int, b_abs, b_lenT, b_lenL, b_tupL, b_tupT, b_lstL, b_lstT, b_lstS, b_min2, b_max2, someD_d, lcM_its, lcM_l, lcM_t, forM_its, forM_l, forM_t, WP_bind, guardR_t, bt_nm, bt_tp, bts_nil, bts_cons, wipe_nil, wipe_cons, tT0, tT1, tT2, tT3, tT4, tT5, tT6, tT7, tT8, tT9, tT10, tT11, tT12, tL0, tL1, tL2, tL3, tL4, tL5, tL6, tL7, tL8, tL9, tL10, tL11, tL12, tL13, tL14, tL15, tL16, opt_map_some, opt_bind_some, finF_d, finF_nx, List.getD_cons_zero, List.getD_cons_succ, List.set_cons_zero, List.set_cons_succ, List.map_cons, List.map_nil, List.length_cons, List.length_nil, List.cons_append, List.nil_append, List.replicate_succ, List.replicate_zero, Nat.reduceAdd, Nat.reduceSub, Nat.sub_self, ↓wz_lc2, ↓wz_lc2b, ↓wz_slJ, slF_i, slT_i, slB_i, slD_t, slD_l, lc2M_its, lc2M_l, lc2M_t, innL_its, innL_l, innL_t, isD_map, ↓wz_slF_int, ↓wz_slT_int, ↓wz_slB_int_int, ↓wz_slB_int_neg, ↓wz_slB_int_var, ↓wz_slB_int_bin, ↓wz_slB_int_ix, ↓wz_slF_neg, ↓wz_slT_neg, ↓wz_slB_neg_int, ↓wz_slB_neg_neg, ↓wz_slB_neg_var, ↓wz_slB_neg_bin, ↓wz_slB_neg_ix, ↓wz_slF_var, ↓wz_slT_var, ↓wz_slB_var_int, ↓wz_slB_var_neg, ↓wz_slB_var_var, ↓wz_slB_var_bin, ↓wz_slB_var_ix, ↓wz_slF_bin, ↓wz_slT_bin, ↓wz_slB_bin_int, ↓wz_slB_bin_neg, ↓wz_slB_bin_var, ↓wz_slB_bin_bin, ↓wz_slB_bin_ix, ↓wz_slF_ix, ↓wz_slT_ix, ↓wz_slB_ix_int, ↓wz_slB_ix_neg, ↓wz_slB_ix_var, ↓wz_slB_ix_bin, ↓wz_slB_ix_ix, ↓wz_slF_call, ↓wz_slT_call, ↓wz_slF_blt, ↓wz_slT_blt, ↓wz_lcn, ↓wz_lcc, ↓wz_forn, ↓wz_forc, consO_s, consO_n, forK_nx, forK_ct, forK_bk, forK_rt, c_isN, c_isnN, c_isT, c_isF, c_isnT, c_isnF, isNone_n, isNone_t, isNone_l, isNone_i, isNone_b, c_nel0, c_eql0, Bool.not_true, Bool.not_false, o_catL, o_catT, Nat.reduceLeDiff, ↓wz_mp, ↓wz_ms, layS_i, c_nes, c_eqs, b_gcd, Bool.not_false, take_all, e, and_self]
    | true =>
      simp only [↓WP_ok, ↓WPO_some, ↓WPB_t, ↓WPB_f, ↓WP_end, ↓pst_q, ↓pso_q, ↓pth_p, ↓WPO_map, ↓wz_var, ↓wz_int, ↓wz_bl, ↓wz_non, ↓wz_str, ↓wz_gi, ↓wz_bin, ↓wz_neg, ↓wz_cmp, ↓wz_cmp2, ↓wz_conj, ↓wz_disj, ↓wz_not, ↓wz_ite, ↓wz_tup, ↓wz_lst, ↓wz_ix, ↓wz_rev, ↓wz_nop, ↓wz_call, ↓wz_blt, ↓wz_isi, ↓wz_lc, ↓wz_lcO, ↓wz_rng, ↓wz_zip, ↓wz_lrg, ↓wz_sst, ↓wz_enm, ↓wz_get, ↓wz_get2, ↓wz_esn, ↓wz_esc, ↓wz_pn, ↓wz_pc, ↓wz_mv, ↓wz_ml, ↓wz_mk, ↓wz_mt, ↓wz_asg1, ↓wz_asgt, ↓wz_new, ↓wz_par, ↓wz_put, ↓wz_app, ↓wz_aug, ↓wz_ex, ↓wz_ifs, ↓wz_fors, ↓wz_forO, ↓wz_whl, ↓wz_ret, ↓wz_retL, ↓wz_ret0, ↓wz_brk, ↓wz_cont, ↓wz_pass, ↓wz_ssn, ↓wz_ssc, ↓wz_fb, ↓wz_lcb, negD_i, notD_b, revD_l, revD_t, isiD_d, layL_cup, layL_l, sA_nil, sA_cons, nxt_nx, nxt_rt, nxt_bk, nxt_ct, view_d, o_add, o_sub, c_lt, c_le, c_gt, c_ge, c_eqi, c_nei, ix_t0, ix_t1, ix_t2, ix_l0, ix_l1, ix_c0, ix_c1, put_c0, put_c1, b_int, b_abs, b_lenT, b_lenL, b_tupL, b_tupT, b_lstL, b_lstT, b_lstS, b_min2, b_max2, someD_d, lcM_its, lcM_l, lcM_t, forM_its, forM_l, forM_t, WP_bind, guardR_t, bt_nm, bt_tp, bts_nil, bts_cons, wipe_nil, wipe_cons, tT0, tT1, tT2, tT3, tT4, tT5, tT6, tT7, tT8, tT9, tT10, tT11, tT12, tL0, tL1, tL2, tL3, tL4, tL5, tL6, tL7, tL8, tL9, tL10, tL11, tL12, tL13, tL14, tL15, tL16, opt_map_some, opt_bind_some, finF_d, finF_nx, List.getD_cons_zero, List.getD_cons_succ, List.set_cons_zero, List.set_cons_succ, List.map_cons, List.map_nil, List.length_cons, List.length_nil, List.cons_append, List.nil_append, List.replicate_succ, List.replicate_zero, Nat.reduceAdd, Nat.reduceSub, Nat.sub_self, ↓wz_lc2, ↓wz_lc2b, ↓wz_slJ, slF_i, slT_i, slB_i, slD_t, slD_l, lc2M_its, lc2M_l, lc2M_t, innL_its, innL_l, innL_t, isD_map, ↓wz_slF_int, ↓wz_slT_int, ↓wz_slB_int_int, ↓wz_slB_int_neg, ↓wz_slB_int_var, ↓wz_slB_int_bin, ↓wz_slB_int_ix, ↓wz_slF_neg, ↓wz_slT_neg, ↓wz_slB_neg_int, ↓wz_slB_neg_neg, ↓wz_slB_neg_var, ↓wz_slB_neg_bin, ↓wz_slB_neg_ix, ↓wz_slF_var, ↓wz_slT_var, ↓wz_slB_var_int, ↓wz_slB_var_neg, ↓wz_slB_var_var, ↓wz_slB_var_bin, ↓wz_slB_var_ix, ↓wz_slF_bin, ↓wz_slT_bin, ↓wz_slB_bin_int, ↓wz_slB_bin_neg, ↓wz_slB_bin_var, ↓wz_slB_bin_bin, ↓wz_slB_bin_ix, ↓wz_slF_ix, ↓wz_slT_ix, ↓wz_slB_ix_int, ↓wz_slB_ix_neg, ↓wz_slB_ix_var, ↓wz_slB_ix_bin, ↓wz_slB_ix_ix, ↓wz_slF_call, ↓wz_slT_call, ↓wz_slF_blt, ↓wz_slT_blt, ↓wz_lcn, ↓wz_lcc, ↓wz_forn, ↓wz_forc, consO_s, consO_n, forK_nx, forK_ct, forK_bk, forK_rt, c_isN, c_isnN, c_isT, c_isF, c_isnT, c_isnF, isNone_n, isNone_t, isNone_l, isNone_i, isNone_b, c_nel0, c_eql0, Bool.not_true, Bool.not_false, o_catL, o_catT, Nat.reduceLeDiff, ↓wz_mp, ↓wz_ms, layS_i, c_nes, c_eqs, b_gcd, Bool.not_true]
      refine WP.allI (f := fun x => isTp x 2 2) (fun x hx => ?_) ?_
      · simp only [↓WP_ok, ↓WPO_some, ↓WPB_t, ↓WPB_f, ↓WP_end, ↓pst_q, ↓pso_q, ↓pth_p, ↓WPO_map, ↓wz_var, ↓wz_int, ↓wz_bl, ↓wz_non, ↓wz_str, ↓wz_gi, ↓wz_bin, ↓wz_neg, ↓wz_cmp, ↓wz_cmp2, ↓wz_conj, ↓wz_disj, ↓wz_not, ↓wz_ite, ↓wz_tup, ↓wz_lst, ↓wz_ix, ↓wz_rev, ↓wz_nop, ↓wz_call, ↓wz_blt, ↓wz_isi, ↓wz_lc, ↓wz_lcO, ↓wz_rng, ↓wz_zip, ↓wz_lrg, ↓wz_sst, ↓wz_enm, ↓wz_get, ↓wz_get2, ↓wz_esn, ↓wz_esc, ↓wz_pn, ↓wz_pc, ↓wz_mv, ↓wz_ml, ↓wz_mk, ↓wz_mt, ↓wz_asg1, ↓wz_asgt, ↓wz_new, ↓wz_par, ↓wz_put, ↓wz_app, ↓wz_aug, ↓wz_ex, ↓wz_ifs, ↓wz_fors, ↓wz_forO, ↓wz_whl, ↓wz_ret, ↓wz_retL, ↓wz_ret0, ↓wz_brk, ↓wz_cont, ↓wz_pass, ↓wz_ssn, ↓wz_ssc, ↓wz_fb, ↓wz_lcb, negD_i, notD_b, revD_l, revD_t, isiD_d, layL_cup, layL_l, sA_nil, sA_cons, nxt_nx, nxt_rt, nxt_bk, nxt_ct, view_d, o_add, o_sub, c_lt, c_le, c_gt, c_ge, c_eqi, c_nei, ix_t0, ix_t1, ix_t2, ix_l0, ix_l1, ix_c0, ix_c1, put_c0, put_c1, b_int, b_abs, b_lenT, b_lenL, b_tupL, b_tupT, b_lstL, b_lstT, b_lstS, b_min2, b_max2, someD_d, lcM_its, lcM_l, lcM_t, forM_its, forM_l, forM_t, WP_bind, guardR_t, bt_nm, bt_tp, bts_nil, bts_cons, wipe_nil, wipe_cons, tT0, tT1, tT2, tT3, tT4, tT5, tT6, tT7, tT8, tT9, tT10, tT11, tT12, tL0, tL1, tL2, tL3, tL4, tL5, tL6, tL7, tL8, tL9, tL10, tL11, tL12, tL13, tL14, tL15, tL16, opt_map_some, opt_bind_some, finF_d, finF_nx, List.getD_cons_zero, List.getD_cons_succ, List.set_cons_zero, List.set_cons_succ, List.map_cons, List.map_nil, List.length_cons, List.length_nil, List.cons_append, List.nil_append, List.replicate_succ, List.replicate_zero, Nat.reduceAdd, Nat.reduceSub, Nat.sub_self, ↓wz_lc2, ↓wz_lc2b, ↓wz_slJ, slF_i, slT_i, slB_i, slD_t, slD_l, lc2M_its, lc2M_l, lc2M_t, innL_its, innL_l, innL_t, isD_map, ↓wz_slF_int, ↓wz_slT_int, ↓wz_slB_int_int, ↓wz_slB_int_neg, ↓wz_slB_int_var, ↓wz_slB_int_bin, ↓wz_slB_int_ix, ↓wz_slF_neg, ↓wz_slT_neg, ↓wz_slB_neg_int, ↓wz_slB_neg_neg, ↓wz_slB_neg_var, ↓wz_slB_neg_bin, ↓wz_slB_neg_ix, ↓wz_slF_var, ↓wz_slT_var, ↓wz_slB_var_int, ↓wz_slB_var_neg, ↓wz_slB_var_var, ↓wz_slB_var_bin, ↓wz_slB_var_ix, ↓wz_slF_bin, ↓wz_slT_bin, ↓wz_slB_bin_int, ↓wz_slB_bin_neg, ↓wz_slB_bin_var, ↓wz_slB_bin_bin, ↓wz_slB_bin_ix, ↓wz_slF_ix, ↓wz_slT_ix, ↓wz_slB_ix_int, ↓wz_slB_ix_neg, ↓wz_slB_ix_var, ↓wz_slB_ix_bin, ↓wz_slB_ix_ix, ↓wz_slF_call, ↓wz_slT_call, ↓wz_slF_blt, ↓wz_slT_blt, ↓wz_lcn, ↓wz_lcc, ↓wz_forn, ↓wz_forc, consO_s, consO_n, forK_nx, forK_ct, forK_bk, forK_rt, c_isN, c_isnN, c_isT, c_isF, c_isnT, c_isnF, isNone_n, isNone_t, isNone_l, isNone_i, isNone_b, c_nel0, c_eql0, Bool.not_true, Bool.not_false, o_catL, o_catT, Nat.reduceLeDiff, ↓wz_mp, ↓wz_ms, layS_i, c_nes, c_eqs, b_gcd, wipeR]
        refine WP.eq (tu.ev n (by omega) _ _ _ _) ⟨rfl, rfl⟩
      simp only [↓WP_ok, ↓WPO_some, ↓WPB_t, ↓WPB_f, ↓WP_end, ↓pst_q, ↓pso_q, ↓pth_p, ↓WPO_map, ↓wz_var, ↓wz_int, ↓wz_bl, ↓wz_non, ↓wz_str, ↓wz_gi, ↓wz_bin, ↓wz_neg, ↓wz_cmp, ↓wz_cmp2, ↓wz_conj, ↓wz_disj, ↓wz_not, ↓wz_ite, ↓wz_tup, ↓wz_lst, ↓wz_ix, ↓wz_rev, ↓wz_nop, ↓wz_call, ↓wz_blt, ↓wz_isi, ↓wz_lc, ↓wz_lcO, ↓wz_rng, ↓wz_zip, ↓wz_lrg, ↓wz_sst, ↓wz_enm, ↓wz_get, ↓wz_get2, ↓wz_esn, ↓wz_esc, ↓wz_pn, ↓wz_pc, ↓wz_mv, ↓wz_ml, ↓wz_mk, ↓wz_mt, ↓wz_asg1, ↓wz_asgt, ↓wz_new, ↓wz_par, ↓wz_put, ↓wz_app, ↓wz_aug, ↓wz_ex, ↓wz_ifs, ↓wz_fors, ↓wz_forO, ↓wz_whl, ↓wz_ret, ↓wz_retL, ↓wz_ret0, ↓wz_brk, ↓wz_cont, ↓wz_pass, ↓wz_ssn, ↓wz_ssc, ↓wz_fb, ↓wz_lcb, negD_i, notD_b, revD_l, revD_t, isiD_d, layL_cup, layL_l, sA_nil, sA_cons, nxt_nx, nxt_rt, nxt_bk, nxt_ct, view_d, o_add, o_sub, c_lt, c_le, c_gt, c_ge, c_eqi, c_nei, ix_t0, ix_t1, ix_t2, ix_l0, ix_l1, ix_c0, ix_c1, put_c0, put_c1, b_int, b_abs, b_lenT, b_lenL, b_tupL, b_tupT, b_lstL, b_lstT, b_lstS, b_min2, b_max2, someD_d, lcM_its, lcM_l, lcM_t, forM_its, forM_l, forM_t, WP_bind, guardR_t, bt_nm, bt_tp, bts_nil, bts_cons, wipe_nil, wipe_cons, tT0, tT1, tT2, tT3, tT4, tT5, tT6, tT7, tT8, tT9, tT10, tT11, tT12, tL0, tL1, tL2, tL3, tL4, tL5, tL6, tL7, tL8, tL9, tL10, tL11, tL12, tL13, tL14, tL15, tL16, opt_map_some, opt_bind_some, finF_d, finF_nx, List.getD_cons_zero, List.getD_cons_succ, List.set_cons_zero, List.set_cons_succ, List.map_cons, List.map_nil, List.length_cons, List.length_nil, List.cons_append, List.nil_append, List.replicate_succ, List.replicate_zero, Nat.reduceAdd, Nat.reduceSub, Nat.sub_self, ↓wz_lc2, ↓wz_lc2b, ↓wz_slJ, slF_i, slT_i, slB_i, slD_t, slD_l, lc2M_its, lc2M_l, lc2M_t, innL_its, innL_l, innL_t, isD_map, ↓wz_slF_int, ↓wz_slT_int, ↓wz_slB_int_int, ↓wz_slB_int_neg, ↓wz_slB_int_var, ↓wz_slB_int_bin, ↓wz_slB_int_ix, ↓wz_slF_neg, ↓wz_slT_neg, ↓wz_slB_neg_int, ↓wz_slB_neg_neg, ↓wz_slB_neg_var, ↓wz_slB_neg_bin, ↓wz_slB_neg_ix, ↓wz_slF_var, ↓wz_slT_var, ↓wz_slB_var_int, ↓wz_slB_var_neg, ↓wz_slB_var_var, ↓wz_slB_var_bin, ↓wz_slB_var_ix, ↓wz_slF_bin, ↓wz_slT_bin, ↓wz_slB_bin_int, ↓wz_slB_bin_neg, ↓wz_slB_bin_var, ↓wz_slB_bin_bin, ↓wz_slB_bin_ix, ↓wz_slF_ix, ↓wz_slT_ix, ↓wz_slB_ix_int, ↓wz_slB_ix_neg, ↓wz_slB_ix_var, ↓wz_slB_ix_bin, ↓wz_slB_ix_ix, ↓wz_slF_call, ↓wz_slT_call, ↓wz_slF_blt, ↓wz_slT_blt, ↓wz_lcn, ↓wz_lcc, ↓wz_forn, ↓wz_forc, consO_s, consO_n, forK_nx, forK_ct, forK_bk, forK_rt, c_isN, c_isnN, c_isT, c_isF, c_isnT, c_isnF, isNone_n, isNone_t, isNone_l, isNone_i, isNone_b, c_nel0, c_eql0, Bool.not_true, Bool.not_false, o_catL, o_catT, Nat.reduceLeDiff, ↓wz_mp, ↓wz_ms, layS_i, c_nes, c_eqs, b_gcd, b_all]
      cases h2 : xs.all (fun x => isTp x 2 2) with
      | false =>
        have e : fitsSeen (slen sk) (.tuple xs) = false := by rw [fitsSeen_t, h1, h2]; rfl
        simp only [↓WP_ok, ↓WPO_some, ↓WPB_t, ↓WPB_f, ↓WP_end, ↓pst_q, ↓pso_q, ↓pth_p, ↓WPO_map, ↓wz_var, ↓wz_int, ↓wz_bl, ↓wz_non, ↓wz_str, ↓wz_gi, ↓wz_bin, ↓wz_neg, ↓wz_cmp, ↓wz_cmp2, ↓wz_conj, ↓wz_disj, ↓wz_not, ↓wz_ite, ↓wz_tup, ↓wz_lst, ↓wz_ix, ↓wz_rev, ↓wz_nop, ↓wz_call, ↓wz_blt, ↓wz_isi, ↓wz_lc, ↓wz_lcO, ↓wz_rng, ↓wz_zip, ↓wz_lrg, ↓wz_sst, ↓wz_enm, ↓wz_get, ↓wz_get2, ↓wz_esn, ↓wz_esc, ↓wz_pn, ↓wz_pc, ↓wz_mv, ↓wz_ml, ↓wz_mk, ↓wz_mt, ↓wz_asg1, ↓wz_asgt, ↓wz_new, ↓wz_par, ↓wz_put, ↓wz_app, ↓wz_aug, ↓wz_ex, ↓wz_ifs, ↓wz_fors, ↓wz_forO, ↓wz_whl, ↓wz_ret, ↓wz_retL, ↓wz_ret0, ↓wz_brk, ↓wz_cont, ↓wz_pass, ↓wz_ssn, ↓wz_ssc, ↓wz_fb, ↓wz_lcb, negD_i, notD_b, revD_l, revD_t, isiD_d, layL_cup, layL_l, sA_nil, sA_cons, nxt_nx, nxt_rt, nxt_bk, nxt_ct, view_d, o_add, o_sub, c_lt, c_le, c_gt, c_ge, c_eqi, c_nei, ix_t0, ix_t1, ix_t2, ix_l0, ix_l1, ix_c0, ix_c1, put_c0, put_c1, b_int, b_abs, b_lenT, b_lenL, b_tupL, b_tupT, b_lstL, b_lstT, b_lstS, b_min2, b_max2, someD_d, lcM_its, lcM_l, lcM_t, forM_its, forM_l, forM_t, WP_bind, guardR_t, bt_nm, bt_tp, bts_nil, bts_cons, wipe_nil, wipe_cons, tT0, tT1, tT2, tT3, tT4, tT5, tT6, tT7, tT8, tT9, tT10, tT11, tT12, tL0, tL1, tL2, tL3, tL4, tL5, tL6, tL7, tL8, tL9, tL10, tL11, tL12, tL13, tL14, tL15, tL16, opt_map_some, opt_bind_some, finF_d, finF_nx, List.getD_cons_zero, List.getD_cons_succ, List.set_cons_zero, List.set_cons_succ, List.map_cons, List.map_nil, List.length_cons, List.length_nil, List.cons_append, List.nil_append, List.replicate_succ, List.replicate_zero, Nat.reduceAdd, Nat.reduceSub, Nat.sub_self, ↓wz_lc2, ↓wz_lc2b, ↓wz_slJ, slF_i, slT_i, slB_i, slD_t, slD_l, lc2M_its, lc2M_l, lc2M_t, innL_its, innL_l, innL_t, isD_map, ↓wz_slF_int, ↓wz_slT_int, ↓wz_slB_int_int, ↓wz_slB_int_neg, ↓wz_slB_int_var, ↓wz_slB_int_bin, ↓wz_slB_int_ix, ↓wz_slF_neg, ↓wz_slT_neg, ↓wz_slB_neg_int, ↓wz_slB_neg_neg, ↓wz_slB_neg_var, ↓wz_slB_neg_bin, ↓wz_slB_neg_ix, ↓wz_slF_var, ↓wz_slT_var, ↓wz_slB_var_int, ↓wz_slB_var_neg, ↓wz_slB_var_var, ↓wz_slB_var_bin, ↓wz_slB_var_ix, ↓wz_slF_bin, ↓wz_slT_bin, ↓wz_slB_bin_int, ↓wz_slB_bin_neg, ↓wz_slB_bin_var, ↓wz_slB_bin_bin, ↓wz_slB_bin_ix, ↓wz_slF_ix, ↓wz_slT_ix, ↓wz_slB_ix_int, ↓wz_slB_ix_neg, ↓wz_slB_ix_var, ↓wz_slB_ix_bin, ↓wz_slB_ix_ix, ↓wz_slF_call, ↓wz_slT_call, ↓wz_slF_blt, ↓wz_slT_blt, ↓wz_lcn, ↓wz_lcc, ↓wz_forn, ↓wz_forc, consO_s, consO_n, forK_nx, forK_ct, forK_bk, forK_rt, c_isN, c_isnN, c_isT, c_isF, c_isnT, c_isnF, isNone_n, isNone_t, isNone_l, isNone_i, isNone_b, c_nel0, c_eql0, Bool.not_true, Bool.not_false, o_catL, o_catT, Nat.reduceLeDiff, ↓wz_mp, ↓wz_ms, layS_i, c_nes, c_eqs, b_gcd, Bool.not_false, take_all, e, and_self]
      | true =>
        have h2' := all2 h2
        simp only [↓WP_ok, ↓WPO_some, ↓WPB_t, ↓WPB_f, ↓WP_end, ↓pst_q, ↓pso_q, ↓pth_p, ↓WPO_map, ↓wz_var, ↓wz_int, ↓wz_bl, ↓wz_non, ↓wz_str, ↓wz_gi, ↓wz_bin, ↓wz_neg, ↓wz_cmp, ↓wz_cmp2, ↓wz_conj, ↓wz_disj, ↓wz_not, ↓wz_ite, ↓wz_tup, ↓wz_lst, ↓wz_ix, ↓wz_rev, ↓wz_nop, ↓wz_call, ↓wz_blt, ↓wz_isi, ↓wz_lc, ↓wz_lcO, ↓wz_rng, ↓wz_zip, ↓wz_lrg, ↓wz_sst, ↓wz_enm, ↓wz_get, ↓wz_get2, ↓wz_esn, ↓wz_esc, ↓wz_pn, ↓wz_pc, ↓wz_mv, ↓wz_ml, ↓wz_mk, ↓wz_mt, ↓wz_asg1, ↓wz_asgt, ↓wz_new, ↓wz_par, ↓wz_put, ↓wz_app, ↓wz_aug, ↓wz_ex, ↓wz_ifs, ↓wz_fors, ↓wz_forO, ↓wz_whl, ↓wz_ret, ↓wz_retL, ↓wz_ret0, ↓wz_brk, ↓wz_cont, ↓wz_pass, ↓wz_ssn, ↓wz_ssc, ↓wz_fb, ↓wz_lcb, negD_i, notD_b, revD_l, revD_t, isiD_d, layL_cup, layL_l, sA_nil, sA_cons, nxt_nx, nxt_rt, nxt_bk, nxt_ct, view_d, o_add, o_sub, c_lt, c_le, c_gt, c_ge, c_eqi, c_nei, ix_t0, ix_t1, ix_t2, ix_l0, ix_l1, ix_c0, ix_c1, put_c0, put_c1, b_int, b_abs, b_lenT, b_lenL, b_tupL, b_tupT, b_lstL, b_lstT, b_lstS, b_min2, b_max2, someD_d, lcM_its, lcM_l, lcM_t, forM_its, forM_l, forM_t, WP_bind, guardR_t, bt_nm, bt_tp, bts_nil, bts_cons, wipe_nil, wipe_cons, tT0, tT1, tT2, tT3, tT4, tT5, tT6, tT7, tT8, tT9, tT10, tT11, tT12, tL0, tL1, tL2, tL3, tL4, tL5, tL6, tL7, tL8, tL9, tL10, tL11, tL12, tL13, tL14, tL15, tL16, opt_map_some, opt_bind_some, finF_d, finF_nx, List.getD_cons_zero, List.getD_cons_succ, List.set_cons_zero, List.set_cons_succ, List.map_cons, List.map_nil, List.length_cons, List.length_nil, List.cons_append, List.nil_append, List.replicate_succ, List.replicate_zero, Nat.reduceAdd, Nat.reduceSub, Nat.sub_self, ↓wz_lc2, ↓wz_lc2b, ↓wz_slJ, slF_i, slT_i, slB_i, slD_t, slD_l, lc2M_its, lc2M_l, lc2M_t, innL_its, innL_l, innL_t, isD_map, ↓wz_slF_int, ↓wz_slT_int, ↓wz_slB_int_int, ↓wz_slB_int_neg, ↓wz_slB_int_var, ↓wz_slB_int_bin, ↓wz_slB_int_ix, ↓wz_slF_neg, ↓wz_slT_neg, ↓wz_slB_neg_int, ↓wz_slB_neg_neg, ↓wz_slB_neg_var, ↓wz_slB_neg_bin, ↓wz_slB_neg_ix, ↓wz_slF_var, ↓wz_slT_var, ↓wz_slB_var_int, ↓wz_slB_var_neg, ↓wz_slB_var_var, ↓wz_slB_var_bin, ↓wz_slB_var_ix, ↓wz_slF_bin, ↓wz_slT_bin, ↓wz_slB_bin_int, ↓wz_slB_bin_neg, ↓wz_slB_bin_var, ↓wz_slB_bin_bin, ↓wz_slB_bin_ix, ↓wz_slF_ix, ↓wz_slT_ix, ↓wz_slB_ix_int, ↓wz_slB_ix_neg, ↓wz_slB_ix_var, ↓wz_slB_ix_bin, ↓wz_slB_ix_ix, ↓wz_slF_call, ↓wz_slT_call, ↓wz_slF_blt, ↓wz_slT_blt, ↓wz_lcn, ↓wz_lcc, ↓wz_forn, ↓wz_forc, consO_s, consO_n, forK_nx, forK_ct, forK_bk, forK_rt, c_isN, c_isnN, c_isT, c_isF, c_isnT, c_isnF, isNone_n, isNone_t, isNone_l, isNone_i, isNone_b, c_nel0, c_eql0, Bool.not_true, Bool.not_false, o_catL, o_catT, Nat.reduceLeDiff, ↓wz_mp, ↓wz_ms, layS_i, c_nes, c_eqs, b_gcd, Bool.not_true]
        refine WP.allI (f := fun x => isW (sndD x) (-90) 90) (fun x hx => ?_) ?_
        · simp only [↓WP_ok, ↓WPO_some, ↓WPB_t, ↓WPB_f, ↓WP_end, ↓pst_q, ↓pso_q, ↓pth_p, ↓WPO_map, ↓wz_var, ↓wz_int, ↓wz_bl, ↓wz_non, ↓wz_str, ↓wz_gi, ↓wz_bin, ↓wz_neg, ↓wz_cmp, ↓wz_cmp2, ↓wz_conj, ↓wz_disj, ↓wz_not, ↓wz_ite, ↓wz_tup, ↓wz_lst, ↓wz_ix, ↓wz_rev, ↓wz_nop, ↓wz_call, ↓wz_blt, ↓wz_isi, ↓wz_lc, ↓wz_lcO, ↓wz_rng, ↓wz_zip, ↓wz_lrg, ↓wz_sst, ↓wz_enm, ↓wz_get, ↓wz_get2, ↓wz_esn, ↓wz_esc, ↓wz_pn, ↓wz_pc, ↓wz_mv, ↓wz_ml, ↓wz_mk, ↓wz_mt, ↓wz_asg1, ↓wz_asgt, ↓wz_new, ↓wz_par, ↓wz_put, ↓wz_app, ↓wz_aug, ↓wz_ex, ↓wz_ifs, ↓wz_fors, ↓wz_forO, ↓wz_whl, ↓wz_ret, ↓wz_retL, ↓wz_ret0, ↓wz_brk, ↓wz_cont, ↓wz_pass, ↓wz_ssn, ↓wz_ssc, ↓wz_fb, ↓wz_lcb, negD_i, notD_b, revD_l, revD_t, isiD_d, layL_cup, layL_l, sA_nil, sA_cons, nxt_nx, nxt_rt, nxt_bk, nxt_ct, view_d, o_add, o_sub, c_lt, c_le, c_gt, c_ge, c_eqi, c_nei, ix_t0, ix_t1, ix_t2, ix_l0, ix_l1, ix_c0, ix_c1, put_c0, put_c1, b_int, b_abs, b_lenT, b_lenL, b_tupL, b_tupT, b_lstL, b_lstT, b_lstS, b_min2, b_max2, someD_d, lcM_its, lcM_l, lcM_t, forM_its, forM_l, forM_t, WP_bind, guardR_t, bt_nm, bt_tp, bts_nil, bts_cons, wipe_nil, wipe_cons, tT0, tT1, tT2, tT3, tT4, tT5, tT6, tT7, tT8, tT9, tT10, tT11, tT12, tL0, tL1, tL2, tL3, tL4, tL5, tL6, tL7, tL8, tL9, tL10, tL11, tL12, tL13, tL14, tL15, tL16, opt_map_some, opt_bind_some, finF_d, finF_nx, List.getD_cons_zero, List.getD_cons_succ, List.set_cons_zero, List.set_cons_succ, List.map_cons, List.map_nil, List.length_cons, List.length_nil, List.cons_append, List.nil_append, List.replicate_succ, List.replicate_zero, Nat.reduceAdd, Nat.reduceSub, Nat.sub_self, ↓wz_lc2, ↓wz_lc2b, ↓wz_slJ, slF_i, slT_i, slB_i, slD_t, slD_l, lc2M_its, lc2M_l, lc2M_t, innL_its, innL_l, innL_t, isD_map, ↓wz_slF_int, ↓wz_slT_int, ↓wz_slB_int_int, ↓wz_slB_int_neg, ↓wz_slB_int_var, ↓wz_slB_int_bin, ↓wz_slB_int_ix, ↓wz_slF_neg, ↓wz_slT_neg, ↓wz_slB_neg_int, ↓wz_slB_neg_neg, ↓wz_slB_neg_var, ↓wz_slB_neg_bin, ↓wz_slB_neg_ix, ↓wz_slF_var, ↓wz_slT_var, ↓wz_slB_var_int, ↓wz_slB_var_neg, ↓wz_slB_var_var, ↓wz_slB_var_bin, ↓wz_slB_var_ix, ↓wz_slF_bin, ↓wz_slT_bin, ↓wz_slB_bin_int, ↓wz_slB_bin_neg, ↓wz_slB_bin_var, ↓wz_slB_bin_bin, ↓wz_slB_bin_ix, ↓wz_slF_ix, ↓wz_slT_ix, ↓wz_slB_ix_int, ↓wz_slB_ix_neg, ↓wz_slB_ix_var, ↓wz_slB_ix_bin, ↓wz_slB_ix_ix, ↓wz_slF_call, ↓wz_slT_call, ↓wz_slF_blt, ↓wz_slT_blt, ↓wz_lcn, ↓wz_lcc, ↓wz_forn, ↓wz_forc, consO_s, consO_n, forK_nx, forK_ct, forK_bk, forK_rt, c_isN, c_isnN, c_isT, c_isF, c_isnT, c_isnF, isNone_n, isNone_t, isNone_l, isNone_i, isNone_b, c_nel0, c_eql0, Bool.not_true, Bool.not_false, o_catL, o_catT, Nat.reduceLeDiff, ↓wz_mp, ↓wz_ms, layS_i, c_nes, c_eqs, b_gcd, wipeR]
          rw [h2' x hx]
          simp only [↓WP_ok, ↓WPO_some, ↓WPB_t, ↓WPB_f, ↓WP_end, ↓pst_q, ↓pso_q, ↓pth_p, ↓WPO_map, ↓wz_var, ↓wz_int, ↓wz_bl, ↓wz_non, ↓wz_str, ↓wz_gi, ↓wz_bin, ↓wz_neg, ↓wz_cmp, ↓wz_cmp2, ↓wz_conj, ↓wz_disj, ↓wz_not, ↓wz_ite, ↓wz_tup, ↓wz_lst, ↓wz_ix, ↓wz_rev, ↓wz_nop, ↓wz_call, ↓wz_blt, ↓wz_isi, ↓wz_lc, ↓wz_lcO, ↓wz_rng, ↓wz_zip, ↓wz_lrg, ↓wz_sst, ↓wz_enm, ↓wz_get, ↓wz_get2, ↓wz_esn, ↓wz_esc, ↓wz_pn, ↓wz_pc, ↓wz_mv, ↓wz_ml, ↓wz_mk, ↓wz_mt, ↓wz_asg1, ↓wz_asgt, ↓wz_new, ↓wz_par, ↓wz_put, ↓wz_app, ↓wz_aug, ↓wz_ex, ↓wz_ifs, ↓wz_fors, ↓wz_forO, ↓wz_whl, ↓wz_ret, ↓wz_retL, ↓wz_ret0, ↓wz_brk, ↓wz_cont, ↓wz_pass, ↓wz_ssn, ↓wz_ssc, ↓wz_fb, ↓wz_lcb, negD_i, notD_b, revD_l, revD_t, isiD_d, layL_cup, layL_l, sA_nil, sA_cons, nxt_nx, nxt_rt, nxt_bk, nxt_ct, view_d, o_add, o_sub, c_lt, c_le, c_gt, c_ge, c_eqi, c_nei, ix_t0, ix_t1, ix_t2, ix_l0, ix_l1, ix_c0, ix_c1, put_c0, put_c1, b_int, b_abs, b_lenT, b_lenL, b_tupL, b_tupT, b_lstL, b_lstT, b_lstS, b_min2, b_max2, someD_d, lcM_its, lcM_l, lcM_t, forM_its, forM_l, forM_t, WP_bind, guardR_t, bt_nm, bt_tp, bts_nil, bts_cons, wipe_nil, wipe_cons, tT0, tT1, tT2, tT3, tT4, tT5, tT6, tT7, tT8, tT9, tT10, tT11, tT12, tL0, tL1, tL2, tL3, tL4, tL5, tL6, tL7, tL8, tL9, tL10, tL11, tL12, tL13, tL14, tL15, tL16, opt_map_some, opt_bind_some, finF_d, finF_nx, List.getD_cons_zero, List.getD_cons_succ, List.set_cons_zero, List.set_cons_succ, List.map_cons, List.map_nil, List.length_cons, List.length_nil, List.cons_append, List.nil_append, List.replicate_succ, List.replicate_zero, Nat.reduceAdd, Nat.reduceSub, Nat.sub_self, ↓wz_lc2, ↓wz_lc2b, ↓wz_slJ, slF_i, slT_i, slB_i, slD_t, slD_l, lc2M_its, lc2M_l, lc2M_t, innL_its, innL_l, innL_t, isD_map, ↓wz_slF_int, ↓wz_slT_int, ↓wz_slB_int_int, ↓wz_slB_int_neg, ↓wz_slB_int_var, ↓wz_slB_int_bin, ↓wz_slB_int_ix, ↓wz_slF_neg, ↓wz_slT_neg, ↓wz_slB_neg_int, ↓wz_slB_neg_neg, ↓wz_slB_neg_var, ↓wz_slB_neg_bin, ↓wz_slB_neg_ix, ↓wz_slF_var, ↓wz_slT_var, ↓wz_slB_var_int, ↓wz_slB_var_neg, ↓wz_slB_var_var, ↓wz_slB_var_bin, ↓wz_slB_var_ix, ↓wz_slF_bin, ↓wz_slT_bin, ↓wz_slB_bin_int, ↓wz_slB_bin_neg, ↓wz_slB_bin_var, ↓wz_slB_bin_bin, ↓wz_slB_bin_ix, ↓wz_slF_ix, ↓wz_slT_ix, ↓wz_slB_ix_int, ↓wz_slB_ix_neg, ↓wz_slB_ix_var, ↓wz_slB_ix_bin, ↓wz_slB_ix_ix, ↓wz_slF_call, ↓wz_slT_call, ↓wz_slF_blt, ↓wz_slT_blt, ↓wz_lcn, ↓wz_lcc, ↓wz_forn, ↓wz_forc, consO_s, consO_n, forK_nx, forK_ct, forK_bk, forK_rt, c_isN, c_isnN, c_isT, c_isF, c_isnT, c_isnF, isNone_n, isNone_t, isNone_l, isNone_i, isNone_b, c_nel0, c_eql0, Bool.not_true, Bool.not_false, o_catL, o_catT, Nat.reduceLeDiff, ↓wz_mp, ↓wz_ms, layS_i, c_nes, c_eqs, b_gcd]
          refine WP.eq (wh.ev n (by omega) _ _ _ _) ⟨rfl, rfl⟩
        simp only [↓WP_ok, ↓WPO_some, ↓WPB_t, ↓WPB_f, ↓WP_end, ↓pst_q, ↓pso_q, ↓pth_p, ↓WPO_map, ↓wz_var, ↓wz_int, ↓wz_bl, ↓wz_non, ↓wz_str, ↓wz_gi, ↓wz_bin, ↓wz_neg, ↓wz_cmp, ↓wz_cmp2, ↓wz_conj, ↓wz_disj, ↓wz_not, ↓wz_ite, ↓wz_tup, ↓wz_lst, ↓wz_ix, ↓wz_rev, ↓wz_nop, ↓wz_call, ↓wz_blt, ↓wz_isi, ↓wz_lc, ↓wz_lcO, ↓wz_rng, ↓wz_zip, ↓wz_lrg, ↓wz_sst, ↓wz_enm, ↓wz_get, ↓wz_get2, ↓wz_esn, ↓wz_esc, ↓wz_pn, ↓wz_pc, ↓wz_mv, ↓wz_ml, ↓wz_mk, ↓wz_mt, ↓wz_asg1, ↓wz_asgt, ↓wz_new, ↓wz_par, ↓wz_put, ↓wz_app, ↓wz_aug, ↓wz_ex, ↓wz_ifs, ↓wz_fors, ↓wz_forO, ↓wz_whl, ↓wz_ret, ↓wz_retL, ↓wz_ret0, ↓wz_brk, ↓wz_cont, ↓wz_pass, ↓wz_ssn, ↓wz_ssc, ↓wz_fb, ↓wz_lcb, negD_i, notD_b, revD_l, revD_t, isiD_d, layL_cup, layL_l, sA_nil, sA_cons, nxt_nx, nxt_rt, nxt_bk, nxt_ct, view_d, o_add, o_sub, c_lt, c_le, c_gt, c_ge, c_eqi, c_nei, ix_t0, ix_t1, ix_t2, ix_l0, ix_l1, ix_c0, ix_c1, put_c0, put_c1, b_int, b_abs, b_lenT, b_lenL, b_tupL, b_tupT, b_lstL, b_lstT, b_lstS, b_min2, b_max2, someD_d, lcM_its, lcM_l, lcM_t, forM_its, forM_l, forM_t, WP_bind, guardR_t, bt_nm, bt_tp, bts_nil, bts_cons, wipe_nil, wipe_cons, tT0, tT1, tT2, tT3, tT4, tT5, tT6, tT7, tT8, tT9, tT10, tT11, tT12, tL0, tL1, tL2, tL3, tL4, tL5, tL6, tL7, tL8, tL9, tL10, tL11, tL12, tL13, tL14, tL15, tL16, opt_map_some, opt_bind_some, finF_d, finF_nx, List.getD_cons_zero, List.getD_cons_succ, List.set_cons_zero, List.set_cons_succ, List.map_cons, List.map_nil, List.length_cons, List.length_nil, List.cons_append, List.nil_append, List.replicate_succ, List.replicate_zero, Nat.reduceAdd, Nat.reduceSub, Nat.sub_self, ↓wz_lc2, ↓wz_lc2b, ↓wz_slJ, slF_i, slT_i, slB_i, slD_t, slD_l, lc2M_its, lc2M_l, lc2M_t, innL_its, innL_l, innL_t, isD_map, ↓wz_slF_int, ↓wz_slT_int, ↓wz_slB_int_int, ↓wz_slB_int_neg, ↓wz_slB_int_var, ↓wz_slB_int_bin, ↓wz_slB_int_ix, ↓wz_slF_neg, ↓wz_slT_neg, ↓wz_slB_neg_int, ↓wz_slB_neg_neg, ↓wz_slB_neg_var, ↓wz_slB_neg_bin, ↓wz_slB_neg_ix, ↓wz_slF_var, ↓wz_slT_var, ↓wz_slB_var_int, ↓wz_slB_var_neg, ↓wz_slB_var_var, ↓wz_slB_var_bin, ↓wz_slB_var_ix, ↓wz_slF_bin, ↓wz_slT_bin, ↓wz_slB_bin_int, ↓wz_slB_bin_neg, ↓wz_slB_bin_var, ↓wz_slB_bin_bin, ↓wz_slB_bin_ix, ↓wz_slF_ix, ↓wz_slT_ix, ↓wz_slB_ix_int, ↓wz_slB_ix_neg, ↓wz_slB_ix_var, ↓wz_slB_ix_bin, ↓wz_slB_ix_ix, ↓wz_slF_call, ↓wz_slT_call, ↓wz_slF_blt, ↓wz_slT_blt, ↓wz_lcn, ↓wz_lcc, ↓wz_forn, ↓wz_forc, consO_s, consO_n, forK_nx, forK_ct, forK_bk, forK_rt, c_isN, c_isnN, c_isT, c_isF, c_isnT, c_isnF, isNone_n, isNone_t, isNone_l, isNone_i, isNone_b, c_nel0, c_eql0, Bool.not_true, Bool.not_false, o_catL, o_catT, Nat.reduceLeDiff, ↓wz_mp, ↓wz_ms, layS_i, c_nes, c_eqs, b_gcd, b_all]
        cases h3 : xs.all (fun x => isW (sndD x) (-90) 90) with
        | false =>
          have e : fitsSeen (slen sk) (.tuple xs) = false := by rw [fitsSeen_t, h1, h2, h3]; rfl
          simp only [↓WP_ok, ↓WPO_some, ↓WPB_t, ↓WPB_f, ↓WP_end, ↓pst_q, ↓pso_q, ↓pth_p, ↓WPO_map, ↓wz_var, ↓wz_int, ↓wz_bl, ↓wz_non, ↓wz_str, ↓wz_gi, ↓wz_bin, ↓wz_neg, ↓wz_cmp, ↓wz_cmp2, ↓wz_conj, ↓wz_disj, ↓wz_not, ↓wz_ite, ↓wz_tup, ↓wz_lst, ↓wz_ix, ↓wz_rev, ↓wz_nop, ↓wz_call, ↓wz_blt, ↓wz_isi, ↓wz_lc, ↓wz_lcO, ↓wz_rng, ↓wz_zip, ↓wz_lrg, ↓wz_sst, ↓wz_enm, ↓wz_get, ↓wz_get2, ↓wz_esn, ↓wz_esc, ↓wz_pn, ↓wz_pc, ↓wz_mv, ↓wz_ml, ↓wz_mk, ↓wz_mt, ↓wz_asg1, ↓wz_asgt, ↓wz_new, ↓wz_par, ↓wz_put, ↓wz_app, ↓wz_aug, ↓wz_ex, ↓wz_ifs, ↓wz_fors, ↓wz_forO, ↓wz_whl, ↓wz_ret, ↓wz_retL, ↓wz_ret0, ↓wz_brk, ↓wz_cont, ↓wz_pass, ↓wz_ssn, ↓wz_ssc, ↓wz_fb, ↓wz_lcb, negD_i, notD_b, revD_l, revD_t, isiD_d, layL_cup, layL_l, sA_nil, sA_cons, nxt_nx, nxt_rt, nxt_bk, nxt_ct, view_d, o_add, o_sub, c_lt, c_le, c_gt, c_ge, c_eqi, c_nei, ix_t0, ix_t1, ix_t2, ix_l0, ix_l1, ix_c0, ix_c1, put_c0, put_c1, b_int, b_abs, b_lenT, b_lenL, b_tupL, b_tupT, b_lstL, b_lstT, b_lstS, b_min2, b_max2, someD_d, lcM_its, lcM_l, lcM_t, forM_its, forM_l, forM_t, WP_bind, guardR_t, bt_nm, bt_tp, bts_nil, bts_cons, wipe_nil, wipe_cons, tT0, tT1, tT2, tT3, tT4, tT5, tT6, tT7, tT8, tT9, tT10, tT11, tT12, tL0, tL1, tL2, tL3, tL4, tL5, tL6, tL7, tL8, tL9, tL10, tL11, tL12, tL13, tL14, tL15, tL16, opt_map_some, opt_bind_some, finF_d, finF_nx, List.getD_cons_zero, List.getD_cons_succ, List.set_cons_zero, List.set_cons_succ, List.map_cons, List.map_nil, List.length_cons, List.length_nil, List.cons_append, List.nil_append, List.replicate_succ, List.replicate_zero, Nat.reduceAdd, Nat.reduceSub, Nat.sub_self, ↓wz_lc2, ↓wz_lc2b, ↓wz_slJ, slF_i, slT_i, slB_i, slD_t, slD_l, lc2M_its, lc2M_l, lc2M_t, innL_its, innL_l, innL_t, isD_map, ↓wz_slF_int, ↓wz_slT_int, ↓wz_slB_int_int, ↓wz_slB_int_neg, ↓wz_slB_int_var, ↓wz_slB_int_bin, ↓wz_slB_int_ix, ↓wz_slF_neg, ↓wz_slT_neg, ↓wz_slB_neg_int, ↓wz_slB_neg_neg, ↓wz_slB_neg_var, ↓wz_slB_neg_bin, ↓wz_slB_neg_ix, ↓wz_slF_var, ↓wz_slT_var, ↓wz_slB_var_int, ↓wz_slB_var_neg, ↓wz_slB_var_var, ↓wz_slB_var_bin, ↓wz_slB_var_ix, ↓wz_slF_bin, ↓wz_slT_bin, ↓wz_slB_bin_int, ↓wz_slB_bin_neg, ↓wz_slB_bin_var, ↓wz_slB_bin_bin, ↓wz_slB_bin_ix, ↓wz_slF_ix, ↓wz_slT_ix, ↓wz_slB_ix_int, ↓wz_slB_ix_neg, ↓wz_slB_ix_var, ↓wz_slB_ix_bin, ↓wz_slB_ix_ix, ↓wz_slF_call, ↓wz_slT_call, ↓wz_slF_blt, ↓wz_slT_blt, ↓wz_lcn, ↓wz_lcc, ↓wz_forn, ↓wz_forc, consO_s, consO_n, forK_nx, forK_ct, forK_bk, forK_rt, c_isN, c_isnN, c_isT, c_isF, c_isnT, c_isnF, isNone_n, isNone_t, isNone_l, isNone_i, isNone_b, c_nel0, c_eql0, Bool.not_true, Bool.not_false, o_catL, o_catT, Nat.reduceLeDiff, ↓wz_mp, ↓wz_ms, layS_i, c_nes, c_eqs, b_gcd, Bool.not_false, take_all, e, and_self]
        | true =>
          simp only [↓WP_ok, ↓WPO_some, ↓WPB_t, ↓WPB_f, ↓WP_end, ↓pst_q, ↓pso_q, ↓pth_p, ↓WPO_map, ↓wz_var, ↓wz_int, ↓wz_bl, ↓wz_non, ↓wz_str, ↓wz_gi, ↓wz_bin, ↓wz_neg, ↓wz_cmp, ↓wz_cmp2, ↓wz_conj, ↓wz_disj, ↓wz_not, ↓wz_ite, ↓wz_tup, ↓wz_lst, ↓wz_ix, ↓wz_rev, ↓wz_nop, ↓wz_call, ↓wz_blt, ↓wz_isi, ↓wz_lc, ↓wz_lcO, ↓wz_rng, ↓wz_zip, ↓wz_lrg, ↓wz_sst, ↓wz_enm, ↓wz_get, ↓wz_get2, ↓wz_esn, ↓wz_esc, ↓wz_pn, ↓wz_pc, ↓wz_mv, ↓wz_ml, ↓wz_mk, ↓wz_mt, ↓wz_asg1, ↓wz_asgt, ↓wz_new, ↓wz_par, ↓wz_put, ↓wz_app, ↓wz_aug, ↓wz_ex, ↓wz_ifs, ↓wz_fors, ↓wz_forO, ↓wz_whl, ↓wz_ret, ↓wz_retL, ↓wz_ret0, ↓wz_brk, ↓wz_cont, ↓wz_pass, ↓wz_ssn, ↓wz_ssc, ↓wz_fb, ↓wz_lcb, negD_i, notD_b, revD_l, revD_t, isiD_d, layL_cup, layL_l, sA_nil, sA_cons, nxt_nx, nxt_rt, nxt_bk, nxt_ct, view_d, o_add, o_sub, c_lt, c_le, c_gt, c_ge, c_eqi, c_nei, ix_t0, ix_t1, ix_t2, ix_l0, ix_l1, ix_c0, ix_c1, put_c0, put_c1, b_int, b_abs, b_lenT, b_lenL, b_tupL, b_tupT, b_lstL, b_lstT, b_lstS, b_min2, b_max2, someD_d, lcM_its, lcM_l, lcM_t, forM_its, forM_l, forM_t, WP_bind, guardR_t, bt_nm, bt_tp, bts_nil, bts_cons, wipe_nil, wipe_cons, tT0, tT1, tT2, tT3, tT4, tT5, tT6, tT7, tT8, tT9, tT10, tT11, tT12, tL0, tL1, tL2, tL3, tL4, tL5, tL6, tL7, tL8, tL9, tL10, tL11, tL12, tL13, tL14, tL15, tL16, opt_map_some, opt_bind_some, finF_d, finF_nx, List.getD_cons_zero, List.getD_cons_succ, List.set_cons_zero, List.set_cons_succ, List.map_cons, List.map_nil, List.length_cons, List.length_nil, List.cons_append, List.nil_append, List.replicate_succ, List.replicate_zero, Nat.reduceAdd, Nat.reduceSub, Nat.sub_self, ↓wz_lc2, ↓wz_lc2b, ↓wz_slJ, slF_i, slT_i, slB_i, slD_t, slD_l, lc2M_its, lc2M_l, lc2M_t, innL_its, innL_l, innL_t, isD_map, ↓wz_slF_int, ↓wz_slT_int, ↓wz_slB_int_int, ↓wz_slB_int_neg, ↓wz_slB_int_var, ↓wz_slB_int_bin, ↓wz_slB_int_ix, ↓wz_slF_neg, ↓wz_slT_neg, ↓wz_slB_neg_int, ↓wz_slB_neg_neg, ↓wz_slB_neg_var, ↓wz_slB_neg_bin, ↓wz_slB_neg_ix, ↓wz_slF_var, ↓wz_slT_var, ↓wz_slB_var_int, ↓wz_slB_var_neg, ↓wz_slB_var_var, ↓wz_slB_var_bin, ↓wz_slB_var_ix, ↓wz_slF_bin, ↓wz_slT_bin, ↓wz_slB_bin_int, ↓wz_slB_bin_neg, ↓wz_slB_bin_var, ↓wz_slB_bin_bin, ↓wz_slB_bin_ix, ↓wz_slF_ix, ↓wz_slT_ix, ↓wz_slB_ix_int, ↓wz_slB_ix_neg, ↓wz_slB_ix_var, ↓wz_slB_ix_bin, ↓wz_slB_ix_ix, ↓wz_slF_call, ↓wz_slT_call, ↓wz_slF_blt, ↓wz_slT_blt, ↓wz_lcn, ↓wz_lcc, ↓wz_forn, ↓wz_forc, consO_s, consO_n, forK_nx, forK_ct, forK_bk, forK_rt, c_isN, c_isnN, c_isT, c_isF, c_isnT, c_isnF, isNone_n, isNone_t, isNone_l, isNone_i, isNone_b, c_nel0, c_eql0, Bool.not_true, Bool.not_false, o_catL, o_catT, Nat.reduceLeDiff, ↓wz_mp, ↓wz_ms, layS_i, c_nes, c_eqs, b_gcd, Bool.not_true, len_sky]
          refine WP.lcA (f := fun x => D.d x) (fun x => fstD x) (fun x hx => ?_) ?_
          · simp only [↓WP_ok, ↓WPO_some, ↓WPB_t, ↓WPB_f, ↓WP_end, ↓pst_q, ↓pso_q, ↓pth_p, ↓WPO_map, ↓wz_var, ↓wz_int, ↓wz_bl, ↓wz_non, ↓wz_str, ↓wz_gi, ↓wz_bin, ↓wz_neg, ↓wz_cmp, ↓wz_cmp2, ↓wz_conj, ↓wz_disj, ↓wz_not, ↓wz_ite, ↓wz_tup, ↓wz_lst, ↓wz_ix, ↓wz_rev, ↓wz_nop, ↓wz_call, ↓wz_blt, ↓wz_isi, ↓wz_lc, ↓wz_lcO, ↓wz_rng, ↓wz_zip, ↓wz_lrg, ↓wz_sst, ↓wz_enm, ↓wz_get, ↓wz_get2, ↓wz_esn, ↓wz_esc, ↓wz_pn, ↓wz_pc, ↓wz_mv, ↓wz_ml, ↓wz_mk, ↓wz_mt, ↓wz_asg1, ↓wz_asgt, ↓wz_new, ↓wz_par, ↓wz_put, ↓wz_app, ↓wz_aug, ↓wz_ex, ↓wz_ifs, ↓wz_fors, ↓wz_forO, ↓wz_whl, ↓wz_ret, ↓wz_retL, ↓wz_ret0, ↓wz_brk, ↓wz_cont, ↓wz_pass, ↓wz_ssn, ↓wz_ssc, ↓wz_fb, ↓wz_lcb, negD_i, notD_b, revD_l, revD_t, isiD_d, layL_cup, layL_l, sA_nil, sA_cons, nxt_nx, nxt_rt, nxt_bk, nxt_ct, view_d, o_add, o_sub, c_lt, c_le, c_gt, c_ge, c_eqi, c_nei, ix_t0, ix_t1, ix_t2, ix_l0, ix_l1, ix_c0, ix_c1, put_c0, put_c1, b_int, b_abs, b_lenT, b_lenL, b_tupL, b_tupT, b_lstL, b_lstT, b_lstS, b_min2, b_max2, someD_d, lcM_its, lcM_l, lcM_t, forM_its, forM_l, forM_t, WP_bind, guardR_t, bt_nm, bt_tp, bts_nil, bts_cons, wipe_nil, wipe_cons, tT0, tT1, tT2, tT3, tT4, tT5, tT6, tT7, tT8, tT9, tT10, tT11, tT12, tL0, tL1, tL2, tL3, tL4, tL5, tL6, tL7, tL8, tL9, tL10, tL11, tL12, tL13, tL14, tL15, tL16, opt_map_some, opt_bind_some, finF_d, finF_nx, List.getD_cons_zero, List.getD_cons_succ, List.set_cons_zero, List.set_cons_succ, List.map_cons, List.map_nil, List.length_cons, List.length_nil, List.cons_append, List.nil_append, List.replicate_succ, List.replicate_zero, Nat.reduceAdd, Nat.reduceSub, Nat.sub_self, ↓wz_lc2, ↓wz_lc2b, ↓wz_slJ, slF_i, slT_i, slB_i, slD_t, slD_l, lc2M_its, lc2M_l, lc2M_t, innL_its, innL_l, innL_t, isD_map, ↓wz_slF_int, ↓wz_slT_int, ↓wz_slB_int_int, ↓wz_slB_int_neg, ↓wz_slB_int_var, ↓wz_slB_int_bin, ↓wz_slB_int_ix, ↓wz_slF_neg, ↓wz_slT_neg, ↓wz_slB_neg_int, ↓wz_slB_neg_neg, ↓wz_slB_neg_var, ↓wz_slB_neg_bin, ↓wz_slB_neg_ix, ↓wz_slF_var, ↓wz_slT_var, ↓wz_slB_var_int, ↓wz_slB_var_neg, ↓wz_slB_var_var, ↓wz_slB_var_bin, ↓wz_slB_var_ix, ↓wz_slF_bin, ↓wz_slT_bin, ↓wz_slB_bin_int, ↓wz_slB_bin_neg, ↓wz_slB_bin_var, ↓wz_slB_bin_bin, ↓wz_slB_bin_ix, ↓wz_slF_ix, ↓wz_slT_ix, ↓wz_slB_ix_int, ↓wz_slB_ix_neg, ↓wz_slB_ix_var, ↓wz_slB_ix_bin, ↓wz_slB_ix_ix, ↓wz_slF_call, ↓wz_slT_call, ↓wz_slF_blt, ↓wz_slT_blt, ↓wz_lcn, ↓wz_lcc, ↓wz_forn, ↓wz_forc, consO_s, consO_n, forK_nx, forK_ct, forK_bk, forK_rt, c_isN, c_isnN, c_isT, c_isF, c_isnT, c_isnF, isNone_n, isNone_t, isNone_l, isNone_i, isNone_b, c_nel0, c_eql0, Bool.not_true, Bool.not_false, o_catL, o_catT, Nat.reduceLeDiff, ↓wz_mp, ↓wz_ms, layS_i, c_nes, c_eqs, b_gcd]
            rw [h2' x hx]
            simp only [↓WP_ok, ↓WPO_some, ↓WPB_t, ↓WPB_f, ↓WP_end, ↓pst_q, ↓pso_q, ↓pth_p, ↓WPO_map, ↓wz_var, ↓wz_int, ↓wz_bl, ↓wz_non, ↓wz_str, ↓wz_gi, ↓wz_bin, ↓wz_neg, ↓wz_cmp, ↓wz_cmp2, ↓wz_conj, ↓wz_disj, ↓wz_not, ↓wz_ite, ↓wz_tup, ↓wz_lst, ↓wz_ix, ↓wz_rev, ↓wz_nop, ↓wz_call, ↓wz_blt, ↓wz_isi, ↓wz_lc, ↓wz_lcO, ↓wz_rng, ↓wz_zip, ↓wz_lrg, ↓wz_sst, ↓wz_enm, ↓wz_get, ↓wz_get2, ↓wz_esn, ↓wz_esc, ↓wz_pn, ↓wz_pc, ↓wz_mv, ↓wz_ml, ↓wz_mk, ↓wz_mt, ↓wz_asg1, ↓wz_asgt, ↓wz_new, ↓wz_par, ↓wz_put, ↓wz_app, ↓wz_aug, ↓wz_ex, ↓wz_ifs, ↓wz_fors, ↓wz_forO, ↓wz_whl, ↓wz_ret, ↓wz_retL, ↓wz_ret0, ↓wz_brk, ↓wz_cont, ↓wz_pass, ↓wz_ssn, ↓wz_ssc, ↓wz_fb, ↓wz_lcb, negD_i, notD_b, revD_l, revD_t, isiD_d, layL_cup, layL_l, sA_nil, sA_cons, nxt_nx, nxt_rt, nxt_bk, nxt_ct, view_d, o_add, o_sub, c_lt, c_le, c_gt, c_ge, c_eqi, c_nei, ix_t0, ix_t1, ix_t2, ix_l0, ix_l1, ix_c0, ix_c1, put_c0, put_c1, b_int, b_abs, b_lenT, b_lenL, b_tupL, b_tupT, b_lstL, b_lstT, b_lstS, b_min2, b_max2, someD_d, lcM_its, lcM_l, lcM_t, forM_its, forM_l, forM_t, WP_bind, guardR_t, bt_nm, bt_tp, bts_nil, bts_cons, wipe_nil, wipe_cons, tT0, tT1, tT2, tT3, tT4, tT5, tT6, tT7, tT8, tT9, tT10, tT11, tT12, tL0, tL1, tL2, tL3, tL4, tL5, tL6, tL7, tL8, tL9, tL10, tL11, tL12, tL13, tL14, tL15, tL16, opt_map_some, opt_bind_some, finF_d, finF_nx, List.getD_cons_zero, List.getD_cons_succ, List.set_cons_zero, List.set_cons_succ, List.map_cons, List.map_nil, List.length_cons, List.length_nil, List.cons_append, List.nil_append, List.replicate_succ, List.replicate_zero, Nat.reduceAdd, Nat.reduceSub, Nat.sub_self, ↓wz_lc2, ↓wz_lc2b, ↓wz_slJ, slF_i, slT_i, slB_i, slD_t, slD_l, lc2M_its, lc2M_l, lc2M_t, innL_its, innL_l, innL_t, isD_map, ↓wz_slF_int, ↓wz_slT_int, ↓wz_slB_int_int, ↓wz_slB_int_neg, ↓wz_slB_int_var, ↓wz_slB_int_bin, ↓wz_slB_int_ix, ↓wz_slF_neg, ↓wz_slT_neg, ↓wz_slB_neg_int, ↓wz_slB_neg_neg, ↓wz_slB_neg_var, ↓wz_slB_neg_bin, ↓wz_slB_neg_ix, ↓wz_slF_var, ↓wz_slT_var, ↓wz_slB_var_int, ↓wz_slB_var_neg, ↓wz_slB_var_var, ↓wz_slB_var_bin, ↓wz_slB_var_ix, ↓wz_slF_bin, ↓wz_slT_bin, ↓wz_slB_bin_int, ↓wz_slB_bin_neg, ↓wz_slB_bin_var, ↓wz_slB_bin_bin, ↓wz_slB_bin_ix, ↓wz_slF_ix, ↓wz_slT_ix, ↓wz_slB_ix_int, ↓wz_slB_ix_neg, ↓wz_slB_ix_var, ↓wz_slB_ix_bin, ↓wz_slB_ix_ix, ↓wz_slF_call, ↓wz_slT_call, ↓wz_slF_blt, ↓wz_slT_blt, ↓wz_lcn, ↓wz_lcc, ↓wz_forn, ↓wz_forc, consO_s, consO_n, forK_nx, forK_ct, forK_bk, forK_rt, c_isN, c_isnN, c_isT, c_isF, c_isnT, c_isnF, isNone_n, isNone_t, isNone_l, isNone_i, isNone_b, c_nel0, c_eql0, Bool.not_true, Bool.not_false, o_catL, o_catT, Nat.reduceLeDiff, ↓wz_mp, ↓wz_ms, layS_i, c_nes, c_eqs, b_gcd]
            exact ⟨rfl, trivial⟩
          simp only [↓WP_ok, ↓WPO_some, ↓WPB_t, ↓WPB_f, ↓WP_end, ↓pst_q, ↓pso_q, ↓pth_p, ↓WPO_map, ↓wz_var, ↓wz_int, ↓wz_bl, ↓wz_non, ↓wz_str, ↓wz_gi, ↓wz_bin, ↓wz_neg, ↓wz_cmp, ↓wz_cmp2, ↓wz_conj, ↓wz_disj, ↓wz_not, ↓wz_ite, ↓wz_tup, ↓wz_lst, ↓wz_ix, ↓wz_rev, ↓wz_nop, ↓wz_call, ↓wz_blt, ↓wz_isi, ↓wz_lc, ↓wz_lcO, ↓wz_rng, ↓wz_zip, ↓wz_lrg, ↓wz_sst, ↓wz_enm, ↓wz_get, ↓wz_get2, ↓wz_esn, ↓wz_esc, ↓wz_pn, ↓wz_pc, ↓wz_mv, ↓wz_ml, ↓wz_mk, ↓wz_mt, ↓wz_asg1, ↓wz_asgt, ↓wz_new, ↓wz_par, ↓wz_put, ↓wz_app, ↓wz_aug, ↓wz_ex, ↓wz_ifs, ↓wz_fors, ↓wz_forO, ↓wz_whl, ↓wz_ret, ↓wz_retL, ↓wz_ret0, ↓wz_brk, ↓wz_cont, ↓wz_pass, ↓wz_ssn, ↓wz_ssc, ↓wz_fb, ↓wz_lcb, negD_i, notD_b, revD_l, revD_t, isiD_d, layL_cup, layL_l, sA_nil, sA_cons, nxt_nx, nxt_rt, nxt_bk, nxt_ct, view_d, o_add, o_sub, c_lt, c_le, c_gt, c_ge, c_eqi, c_nei, ix_t0, ix_t1, ix_t2, ix_l0, ix_l1, ix_c0, ix_c1, put_c0, put_c1, b_int, b_abs, b_lenT, b_lenL, b_tupL, b_tupT, b_lstL, b_lstT, b_lstS, b_min2, b_max2, someD_d, lcM_its, lcM_l, lcM_t, forM_its, forM_l, forM_t, WP_bind, guardR_t, bt_nm, bt_tp, bts_nil, bts_cons, wipe_nil, wipe_cons, tT0, tT1, tT2, tT3, tT4, tT5, tT6, tT7, tT8, tT9, tT10, tT11, tT12, tL0, tL1, tL2, tL3, tL4, tL5, tL6, tL7, tL8, tL9, tL10, tL11, tL12, tL13, tL14, tL15, tL16, opt_map_some, opt_bind_some, finF_d, finF_nx, List.getD_cons_zero, List.getD_cons_succ, List.set_cons_zero, List.set_cons_succ, List.map_cons, List.map_nil, List.length_cons, List.length_nil, List.cons_append, List.nil_append, List.replicate_succ, List.replicate_zero, Nat.reduceAdd, Nat.reduceSub, Nat.sub_self, ↓wz_lc2, ↓wz_lc2b, ↓wz_slJ, slF_i, slT_i, slB_i, slD_t, slD_l, lc2M_its, lc2M_l, lc2M_t, innL_its, innL_l, innL_t, isD_map, ↓wz_slF_int, ↓wz_slT_int, ↓wz_slB_int_int, ↓wz_slB_int_neg, ↓wz_slB_int_var, ↓wz_slB_int_bin, ↓wz_slB_int_ix, ↓wz_slF_neg, ↓wz_slT_neg, ↓wz_slB_neg_int, ↓wz_slB_neg_neg, ↓wz_slB_neg_var, ↓wz_slB_neg_bin, ↓wz_slB_neg_ix, ↓wz_slF_var, ↓wz_slT_var, ↓wz_slB_var_int, ↓wz_slB_var_neg, ↓wz_slB_var_var, ↓wz_slB_var_bin, ↓wz_slB_var_ix, ↓wz_slF_bin, ↓wz_slT_bin, ↓wz_slB_bin_int, ↓wz_slB_bin_neg, ↓wz_slB_bin_var, ↓wz_slB_bin_bin, ↓wz_slB_bin_ix, ↓wz_slF_ix, ↓wz_slT_ix, ↓wz_slB_ix_int, ↓wz_slB_ix_neg, ↓wz_slB_ix_var, ↓wz_slB_ix_bin, ↓wz_slB_ix_ix, ↓wz_slF_call, ↓wz_slT_call, ↓wz_slF_blt, ↓wz_slT_blt, ↓wz_lcn, ↓wz_lcc, ↓wz_forn, ↓wz_forc, consO_s, consO_n, forK_nx, forK_ct, forK_bk, forK_rt, c_isN, c_isnN, c_isT, c_isF, c_isnT, c_isnF, isNone_n, isNone_t, isNone_l, isNone_i, isNone_b, c_nel0, c_eql0, Bool.not_true, Bool.not_false, o_catL, o_catT, Nat.reduceLeDiff, ↓wz_mp, ↓wz_ms, layS_i, c_nes, c_eqs, b_gcd, len_sky]
          refine WP.eq (fso.ev n (by omega) (slen sk) _ M (by omega)) ?_
          have e : fitsSeen (slen sk) (.tuple xs) = fitsSome (slen sk) (.tuple (xs.map fstD)) := by rw [fitsSeen_t, h1, h2, h3]; rfl
          simp only [↓WP_ok, ↓WPO_some, ↓WPB_t, ↓WPB_f, ↓WP_end, ↓pst_q, ↓pso_q, ↓pth_p, ↓WPO_map, ↓wz_var, ↓wz_int, ↓wz_bl, ↓wz_non, ↓wz_str, ↓wz_gi, ↓wz_bin, ↓wz_neg, ↓wz_cmp, ↓wz_cmp2, ↓wz_conj, ↓wz_disj, ↓wz_not, ↓wz_ite, ↓wz_tup, ↓wz_lst, ↓wz_ix, ↓wz_rev, ↓wz_nop, ↓wz_call, ↓wz_blt, ↓wz_isi, ↓wz_lc, ↓wz_lcO, ↓wz_rng, ↓wz_zip, ↓wz_lrg, ↓wz_sst, ↓wz_enm, ↓wz_get, ↓wz_get2, ↓wz_esn, ↓wz_esc, ↓wz_pn, ↓wz_pc, ↓wz_mv, ↓wz_ml, ↓wz_mk, ↓wz_mt, ↓wz_asg1, ↓wz_asgt, ↓wz_new, ↓wz_par, ↓wz_put, ↓wz_app, ↓wz_aug, ↓wz_ex, ↓wz_ifs, ↓wz_fors, ↓wz_forO, ↓wz_whl, ↓wz_ret, ↓wz_retL, ↓wz_ret0, ↓wz_brk, ↓wz_cont, ↓wz_pass, ↓wz_ssn, ↓wz_ssc, ↓wz_fb, ↓wz_lcb, negD_i, notD_b, revD_l, revD_t, isiD_d, layL_cup, layL_l, sA_nil, sA_cons, nxt_nx, nxt_rt, nxt_bk, nxt_ct, view_d, o_add, o_sub, c_lt, c_le, c_gt, c_ge, c_eqi, c_nei, ix_t0, ix_t1, ix_t2, ix_l0, ix_l1, ix_c0, ix_c1, put_c0, put_c1, b_int, b_abs, b_lenT, b_lenL, b_tupL, b_tupT, b_lstL, b_lstT, b_lstS, b_min2, b_max2, someD_d, lcM_its, lcM_l, lcM_t, forM_its, forM_l, forM_t, WP_bind, guardR_t, bt_nm, bt_tp, bts_nil, bts_cons, wipe_nil, wipe_cons, tT0, tT1, tT2, tT3, tT4, tT5, tT6, tT7, tT8, tT9, tT10, tT11, tT12, tL0, tL1, tL2, tL3, tL4, tL5, tL6, tL7, tL8, tL9, tL10, tL11, tL12, tL13, tL14, tL15, tL16, opt_map_some, opt_bind_some, finF_d, finF_nx, List.getD_cons_zero, List.getD_cons_succ, List.set_cons_zero, List.set_cons_succ, List.map_cons, List.map_nil, List.length_cons, List.length_nil, List.cons_append, List.nil_append, List.replicate_succ, List.replicate_zero, Nat.reduceAdd, Nat.reduceSub, Nat.sub_self, ↓wz_lc2, ↓wz_lc2b, ↓wz_slJ, slF_i, slT_i, slB_i, slD_t, slD_l, lc2M_its, lc2M_l, lc2M_t, innL_its, innL_l, innL_t, isD_map, ↓wz_slF_int, ↓wz_slT_int, ↓wz_slB_int_int, ↓wz_slB_int_neg, ↓wz_slB_int_var, ↓wz_slB_int_bin, ↓wz_slB_int_ix, ↓wz_slF_neg, ↓wz_slT_neg, ↓wz_slB_neg_int, ↓wz_slB_neg_neg, ↓wz_slB_neg_var, ↓wz_slB_neg_bin, ↓wz_slB_neg_ix, ↓wz_slF_var, ↓wz_slT_var, ↓wz_slB_var_int, ↓wz_slB_var_neg, ↓wz_slB_var_var, ↓wz_slB_var_bin, ↓wz_slB_var_ix, ↓wz_slF_bin, ↓wz_slT_bin, ↓wz_slB_bin_int, ↓wz_slB_bin_neg, ↓wz_slB_bin_var, ↓wz_slB_bin_bin, ↓wz_slB_bin_ix, ↓wz_slF_ix, ↓wz_slT_ix, ↓wz_slB_ix_int, ↓wz_slB_ix_neg, ↓wz_slB_ix_var, ↓wz_slB_ix_bin, ↓wz_slB_ix_ix, ↓wz_slF_call, ↓wz_slT_call, ↓wz_slF_blt, ↓wz_slT_blt, ↓wz_lcn, ↓wz_lcc, ↓wz_forn, ↓wz_forc, consO_s, consO_n, forK_nx, forK_ct, forK_bk, forK_rt, c_isN, c_isnN, c_isT, c_isF, c_isnT, c_isnF, isNone_n, isNone_t, isNone_l, isNone_i, isNone_b, c_nel0, c_eql0, Bool.not_true, Bool.not_false, o_catL, o_catT, Nat.reduceLeDiff, ↓wz_mp, ↓wz_ms, layS_i, c_nes, c_eqs, b_gcd, take_all, e, and_self]
  | _ => simp only [↓WP_ok, ↓WPO_some, ↓WPB_t, ↓WPB_f, ↓WP_end, ↓pst_q, ↓pso_q, ↓pth_p, ↓WPO_map, ↓wz_var, ↓wz_int, ↓wz_bl, ↓wz_non, ↓wz_str, ↓wz_gi, ↓wz_bin, ↓wz_neg, ↓wz_cmp, ↓wz_cmp2, ↓wz_conj, ↓wz_disj, ↓wz_not, ↓wz_ite, ↓wz_tup, ↓wz_lst, ↓wz_ix, ↓wz_rev, ↓wz_nop, ↓wz_call, ↓wz_blt, ↓wz_isi, ↓wz_lc, ↓wz_lcO, ↓wz_rng, ↓wz_zip, ↓wz_lrg, ↓wz_sst, ↓wz_enm, ↓wz_get, ↓wz_get2, ↓wz_esn, ↓wz_esc, ↓wz_pn, ↓wz_pc, ↓wz_mv, ↓wz_ml, ↓wz_mk, ↓wz_mt, ↓wz_asg1, ↓wz_asgt, ↓wz_new, ↓wz_par, ↓wz_put, ↓wz_app, ↓wz_aug, ↓wz_ex, ↓wz_ifs, ↓wz_fors, ↓wz_forO, ↓wz_whl, ↓wz_ret, ↓wz_retL, ↓wz_ret0, ↓wz_brk, ↓wz_cont, ↓wz_pass, ↓wz_ssn, ↓wz_ssc, ↓wz_fb, ↓wz_lcb, negD_i, notD_b, revD_l, revD_t, isiD_d, layL_cup, layL_l, sA_nil, sA_cons, nxt_nx, nxt_rt, nxt_bk, nxt_ct, view_d, o_add, o_sub, c_lt, c_le, c_gt, c_ge, c_eqi, c_nei, ix_t0, ix_t1, ix_t2, ix_l0, ix_l1, ix_c0, ix_c1, put_c0, put_c1, b_int, b_abs, b_lenT, b_lenL, b_tupL, b_tupT, b_lstL, b_lstT, b_lstS, b_min2, b_max2, someD_d, lcM_its, lcM_l, lcM_t, forM_its, forM_l, forM_t, WP_bind, guardR_t, bt_nm, bt_tp, bts_nil, bts_cons, wipe_nil, wipe_cons, tT0, tT1, tT2, tT3, tT4, tT5, tT6, tT7, tT8, tT9, tT10, tT11, tT12, tL0, tL1, tL2, tL3, tL4, tL5, tL6, tL7, tL8, tL9, tL10, tL11, tL12, tL13, tL14, tL15, tL16, opt_map_some, opt_bind_some, finF_d, finF_nx, List.getD_cons_zero, List.getD_cons_succ, List.set_cons_zero, List.set_cons_succ, List.map_cons, List.map_nil, List.length_cons, List.length_nil, List.cons_append, List.nil_append, List.replicate_succ, List.replicate_zero, Nat.reduceAdd, Nat.reduceSub, Nat.sub_self, ↓wz_lc2, ↓wz_lc2b, ↓wz_slJ, slF_i, slT_i, slB_i, slD_t, slD_l, lc2M_its, lc2M_l, lc2M_t, innL_its, innL_l, innL_t, isD_map, ↓wz_slF_int, ↓wz_slT_int, ↓wz_slB_int_int, ↓wz_slB_int_neg, ↓wz_slB_int_var, ↓wz_slB_int_bin, ↓wz_slB_int_ix, ↓wz_slF_neg, ↓wz_slT_neg, ↓wz_slB_neg_int, ↓wz_slB_neg_neg, ↓wz_slB_neg_var, ↓wz_slB_neg_bin, ↓wz_slB_neg_ix, ↓wz_slF_var, ↓wz_slT_var, ↓wz_slB_var_int, ↓wz_slB_var_neg, ↓wz_slB_var_var, ↓wz_slB_var_bin, ↓wz_slB_var_ix, ↓wz_slF_bin, ↓wz_slT_bin, ↓wz_slB_bin_int, ↓wz_slB_bin_neg, ↓wz_slB_bin_var, ↓wz_slB_bin_bin, ↓wz_slB_bin_ix, ↓wz_slF_ix, ↓wz_slT_ix, ↓wz_slB_ix_int, ↓wz_slB_ix_neg, ↓wz_slB_ix_var, ↓wz_slB_ix_bin, ↓wz_slB_ix_ix, ↓wz_slF_call, ↓wz_slT_call, ↓wz_slF_blt, ↓wz_slT_blt, ↓wz_lcn, ↓wz_lcc, ↓wz_forn, ↓wz_forc, consO_s, consO_n, forK_nx, forK_ct, forK_bk, forK_rt, c_isN, c_isnN, c_isT, c_isF, c_isnT, c_isnF, isNone_n, isNone_t, isNone_l, isNone_i, isNone_b, c_nel0, c_eql0, Bool.not_true, Bool.not_false, o_catL, o_catT, Nat.reduceLeDiff, ↓wz_mp, ↓wz_ms, layS_i, c_nes, c_eqs, b_gcd, isTp, fitsSeen, Bool.not_false, take_all, and_self]
theorem seen_row {sk : List (Int × Int)} {l : List Int} (h : Lot (slen sk) l) (hp : l ≠ []) (hm : 0 ≤ slen sk) (t : Int) : fitsSeen (slen sk) (hrow sk l t) = true := by
  unfold hrow
  rw [fitsSeen_t]
  have e : (l.map fun s => PyData.tuple [.int s, .int (ht (plc sk s + t))]).map fstD = l.map .int := by rw [List.map_map]; rfl
  have h1 := lot_len h hm
  have h2 : 0 < l.length := List.length_pos_iff.mpr hp
  have h3 := fits_lot h hm
  unfold intD at h3
  rw [e, h3]
  simp only [Bool.and_true, Bool.and_eq_true, isTp, List.length_map, decide_eq_true_eq, List.all_eq_true]
  refine ⟨⟨by omega, ?_⟩, ?_⟩
  · intro x hx
    obtain ⟨s, _, rfl⟩ := List.mem_map.mp hx
    rfl
  · intro x hx
    obtain ⟨s, _, rfl⟩ := List.mem_map.mp hx
    show isW (.int (ht (plc sk s + t))) (-90) 90 = true
    have : -90 ≤ ht (plc sk s + t) ∧ ht (plc sk s + t) ≤ 90 := by
      unfold ht
      have := Int.emod_nonneg (plc sk s + t) (show (360 : Int) ≠ 0 by decide)
      have := Int.emod_lt_of_pos (plc sk s + t) (show (0 : Int) < 360 by decide)
      split <;> (try split) <;> omega
    exact isW_in this.1 this.2
theorem slD_hrow (sk : List (Int × Int)) (m t : Int) (hm : 0 < m) (M : Ms) : slD (.d (hrow sk (irange 0 m) t)) (some 1) none M = Rs.ok (.d (hrow sk (irange 1 m) t)) M := by
  unfold hrow
  rw [slD_t, irange_cons hm, List.map_cons, cut_tail]
  rfl
theorem lot_from (a m : Int) (h : 0 ≤ a) : Lot m (irange a m) := ⟨irange_up _ _, fun s hs => by have := mem_irange.mp hs; omega⟩
theorem seen_tail (sk : List (Int × Int)) (t : Int) (hm : 0 < slen sk) : fitsSeen (slen sk) (hrow sk (irange 1 (slen sk)) t) = decide (1 < slen sk) := by
  by_cases h : 1 < slen sk
  · rw [seen_row (lot_from _ _ (by decide)) (by rw [irange_cons h]; simp) (by omega), decide_eq_true h]
  · rw [irange_nil (by omega), decide_eq_false h]
    unfold hrow
    rw [fitsSeen_t]
    rfl
/-- what is none of the heights that are seen, by one thing each -/
theorem fits_no {m : Int} {xs : List PyData} (h : xs.all (fun x => isTp x 2 2) = false ∨ xs.all (fun x => isW (sndD x) (-90) 90) = false ∨ fitsSome m (.tuple (xs.map fstD)) = false ∨ isTp (.tuple xs) 1 m = false) : fitsSeen m (.tuple xs) = false := by
  rw [fitsSeen_t]
  rcases h with h | h | h | h <;> rw [h] <;> simp
theorem fitsSome_t (m : Int) (xs : List PyData) : fitsSome m (.tuple xs) = (decide ((xs.length : Int) ≤ m) && xs.all (fun x => isW x 0 (m - 1)) && (match intsOf xs with
    | some ks => rising ks
    | none => false)) := rfl
theorem some_no {m : Int} {xs : List PyData} (h : xs.all (fun x => isW x 0 (m - 1)) = false) : fitsSome m (.tuple xs) = false := by
  rw [fitsSome_t, h]
  simp
theorem some_not {m : Int} {ks : List Int} (h : rising ks = false) : fitsSome m (.tuple (ks.map .int)) = false := by
  rw [fitsSome_t, intsOf_map]
  dsimp only
  rw [h, Bool.and_false]
theorem seen_more (sk : List (Int × Int)) (t : Int) (hm : 0 < slen sk) (x : PyData) : fitsSeen (slen sk) (.tuple ((irange 0 (slen sk)).map (fun s => .tuple [.int s, .int (ht (plc sk s + t))]) ++ [x])) = false := by
  refine fits_no (.inr (.inr (.inr ?_)))
  simp only [isTp, List.length_append, List.length_map, irange_len, List.length_cons, List.length_nil, Bool.and_eq_false_iff, decide_eq_false_iff_not]
  omega
theorem seen_back (sk : List (Int × Int)) (t : Int) (hm : 1 < slen sk) : fitsSeen (slen sk) (.tuple ((irange 0 (slen sk)).map (fun s => .tuple [.int s, .int (ht (plc sk s + t))])).reverse) = false := by
  refine fits_no (.inr (.inr (.inl ?_)))
  have e : (((irange 0 (slen sk)).map (fun s => PyData.tuple [.int s, .int (ht (plc sk s + t))])).reverse).map fstD = (irange 0 (slen sk)).reverse.map .int := by
    rw [← List.map_reverse, List.map_map]
    rfl
  rw [e]
  refine some_not ?_
  obtain ⟨k, hk⟩ : ∃ k, slen sk = k + 1 + 1 := ⟨slen sk - 2, by omega⟩
  rw [hk, irange_snoc (by omega), irange_snoc (by omega), List.reverse_append, List.reverse_append]
  unfold rising
  simp
  intro h
  omega

theorem law_height_ev {n : Nat} (hn : 1 ≤ n) {sk : List (Int × Int)} {s : Int} (h0 : 0 ≤ s) (h1 : s < slen sk) (t : Int) (M : Ms) : evFn fns WF n 22 [.d (skyD sk), .d (.int s), .d (.int t)] M = Rs.ok (.d (.int (ht (plc sk s + t)))) M := by
  obtain ⟨n, rfl, hn'⟩ := lev hn
  rw [evF f__law_height rfl rfl]
  simp only [f__law_height]
  apply WP.to_eq
  simp only [↓WP_ok, ↓WPO_some, ↓WPB_t, ↓WPB_f, ↓WP_end, ↓pst_q, ↓pso_q, ↓pth_p, ↓WPO_map, ↓wz_var, ↓wz_int, ↓wz_bl, ↓wz_non, ↓wz_str, ↓wz_gi, ↓wz_bin, ↓wz_neg, ↓wz_cmp, ↓wz_cmp2, ↓wz_conj, ↓wz_disj, ↓wz_not, ↓wz_ite, ↓wz_tup, ↓wz_lst, ↓wz_ix, ↓wz_rev, ↓wz_nop, ↓wz_call, ↓wz_blt, ↓wz_isi, ↓wz_lc, ↓wz_lcO, ↓wz_rng, ↓wz_zip, ↓wz_lrg, ↓wz_sst, ↓wz_enm, ↓wz_get, ↓wz_get2, ↓wz_esn, ↓wz_esc, ↓wz_pn, ↓wz_pc, ↓wz_mv, ↓wz_ml, ↓wz_mk, ↓wz_mt, ↓wz_asg1, ↓wz_asgt, ↓wz_new, ↓wz_par, ↓wz_put, ↓wz_app, ↓wz_aug, ↓wz_ex, ↓wz_ifs, ↓wz_fors, ↓wz_forO, ↓wz_whl, ↓wz_ret, ↓wz_retL, ↓wz_ret0, ↓wz_brk, ↓wz_cont, ↓wz_pass, ↓wz_ssn, ↓wz_ssc, ↓wz_fb, ↓wz_lcb, negD_i, notD_b, revD_l, revD_t, isiD_d, layL_cup, layL_l, sA_nil, sA_cons, nxt_nx, nxt_rt, nxt_bk, nxt_ct, view_d, o_add, o_sub, c_lt, c_le, c_gt, c_ge, c_eqi, c_nei, ix_t0, ix_t1, ix_t2, ix_l0, ix_l1, ix_c0, ix_c1, put_c0, put_c1, b_int, b_abs, b_lenT, b_lenL, b_tupL, b_tupT, b_lstL, b_lstT, b_lstS, b_min2, b_max2, someD_d, lcM_its, lcM_l, lcM_t, forM_its, forM_l, forM_t, WP_bind, guardR_t, bt_nm, bt_tp, bts_nil, bts_cons, wipe_nil, wipe_cons, tT0, tT1, tT2, tT3, tT4, tT5, tT6, tT7, tT8, tT9, tT10, tT11, tT12, tL0, tL1, tL2, tL3, tL4, tL5, tL6, tL7, tL8, tL9, tL10, tL11, tL12, tL13, tL14, tL15, tL16, opt_map_some, opt_bind_some, finF_d, finF_nx, List.getD_cons_zero, List.getD_cons_succ, List.set_cons_zero, List.set_cons_succ, List.map_cons, List.map_nil, List.length_cons, List.length_nil, List.cons_append, List.nil_append, List.replicate_succ, List.replicate_zero, Nat.reduceAdd, Nat.reduceSub, Nat.sub_self, ↓wz_lc2, ↓wz_lc2b, ↓wz_slJ, slF_i, slT_i, slB_i, slD_t, slD_l, lc2M_its, lc2M_l, lc2M_t, innL_its, innL_l, innL_t, isD_map, ↓wz_slF_int, ↓wz_slT_int, ↓wz_slB_int_int, ↓wz_slB_int_neg, ↓wz_slB_int_var, ↓wz_slB_int_bin, ↓wz_slB_int_ix, ↓wz_slF_neg, ↓wz_slT_neg, ↓wz_slB_neg_int, ↓wz_slB_neg_neg, ↓wz_slB_neg_var, ↓wz_slB_neg_bin, ↓wz_slB_neg_ix, ↓wz_slF_var, ↓wz_slT_var, ↓wz_slB_var_int, ↓wz_slB_var_neg, ↓wz_slB_var_var, ↓wz_slB_var_bin, ↓wz_slB_var_ix, ↓wz_slF_bin, ↓wz_slT_bin, ↓wz_slB_bin_int, ↓wz_slB_bin_neg, ↓wz_slB_bin_var, ↓wz_slB_bin_bin, ↓wz_slB_bin_ix, ↓wz_slF_ix, ↓wz_slT_ix, ↓wz_slB_ix_int, ↓wz_slB_ix_neg, ↓wz_slB_ix_var, ↓wz_slB_ix_bin, ↓wz_slB_ix_ix, ↓wz_slF_call, ↓wz_slT_call, ↓wz_slF_blt, ↓wz_slT_blt, ↓wz_lcn, ↓wz_lcc, ↓wz_forn, ↓wz_forc, consO_s, consO_n, forK_nx, forK_ct, forK_bk, forK_rt, c_isN, c_isnN, c_isT, c_isF, c_isnT, c_isnF, isNone_n, isNone_t, isNone_l, isNone_i, isNone_b, c_nel0, c_eql0, Bool.not_true, Bool.not_false, o_catL, o_catT, Nat.reduceLeDiff, ↓wz_mp, ↓wz_ms, layS_i, c_nes, c_eqs, b_gcd, ix_sky _ h0 h1, o_mod _ (show (0 : Int) < 360 by decide)]
  have g1 := Int.emod_nonneg (plc sk s + t) (show (360 : Int) ≠ 0 by decide)
  have g2 := Int.emod_lt_of_pos (plc sk s + t) (show (0 : Int) < 360 by decide)
  refine WPB.if (fun h => ?_) (fun h => ?_)
  · have h := of_decide_eq_true h
    have e : ht (plc sk s + t) = (plc sk s + t) % 360 - 360 := by
      unfold ht
      rw [if_neg (by omega), if_neg (by omega)]
    simp only [↓WP_ok, ↓WPO_some, ↓WPB_t, ↓WPB_f, ↓WP_end, ↓pst_q, ↓pso_q, ↓pth_p, ↓WPO_map, ↓wz_var, ↓wz_int, ↓wz_bl, ↓wz_non, ↓wz_str, ↓wz_gi, ↓wz_bin, ↓wz_neg, ↓wz_cmp, ↓wz_cmp2, ↓wz_conj, ↓wz_disj, ↓wz_not, ↓wz_ite, ↓wz_tup, ↓wz_lst, ↓wz_ix, ↓wz_rev, ↓wz_nop, ↓wz_call, ↓wz_blt, ↓wz_isi, ↓wz_lc, ↓wz_lcO, ↓wz_rng, ↓wz_zip, ↓wz_lrg, ↓wz_sst, ↓wz_enm, ↓wz_get, ↓wz_get2, ↓wz_esn, ↓wz_esc, ↓wz_pn, ↓wz_pc, ↓wz_mv, ↓wz_ml, ↓wz_mk, ↓wz_mt, ↓wz_asg1, ↓wz_asgt, ↓wz_new, ↓wz_par, ↓wz_put, ↓wz_app, ↓wz_aug, ↓wz_ex, ↓wz_ifs, ↓wz_fors, ↓wz_forO, ↓wz_whl, ↓wz_ret, ↓wz_retL, ↓wz_ret0, ↓wz_brk, ↓wz_cont, ↓wz_pass, ↓wz_ssn, ↓wz_ssc, ↓wz_fb, ↓wz_lcb, negD_i, notD_b, revD_l, revD_t, isiD_d, layL_cup, layL_l, sA_nil, sA_cons, nxt_nx, nxt_rt, nxt_bk, nxt_ct, view_d, o_add, o_sub, c_lt, c_le, c_gt, c_ge, c_eqi, c_nei, ix_t0, ix_t1, ix_t2, ix_l0, ix_l1, ix_c0, ix_c1, put_c0, put_c1, b_int, b_abs, b_lenT, b_lenL, b_tupL, b_tupT, b_lstL, b_lstT, b_lstS, b_min2, b_max2, someD_d, lcM_its, lcM_l, lcM_t, forM_its, forM_l, forM_t, WP_bind, guardR_t, bt_nm, bt_tp, bts_nil, bts_cons, wipe_nil, wipe_cons, tT0, tT1, tT2, tT3, tT4, tT5, tT6, tT7, tT8, tT9, tT10, tT11, tT12, tL0, tL1, tL2, tL3, tL4, tL5, tL6, tL7, tL8, tL9, tL10, tL11, tL12, tL13, tL14, tL15, tL16, opt_map_some, opt_bind_some, finF_d, finF_nx, List.getD_cons_zero, List.getD_cons_succ, List.set_cons_zero, List.set_cons_succ, List.map_cons, List.map_nil, List.length_cons, List.length_nil, List.cons_append, List.nil_append, List.replicate_succ, List.replicate_zero, Nat.reduceAdd, Nat.reduceSub, Nat.sub_self, ↓wz_lc2, ↓wz_lc2b, ↓wz_slJ, slF_i, slT_i, slB_i, slD_t, slD_l, lc2M_its, lc2M_l, lc2M_t, innL_its, innL_l, innL_t, isD_map, ↓wz_slF_int, ↓wz_slT_int, ↓wz_slB_int_int, ↓wz_slB_int_neg, ↓wz_slB_int_var, ↓wz_slB_int_bin, ↓wz_slB_int_ix, ↓wz_slF_neg, ↓wz_slT_neg, ↓wz_slB_neg_int, ↓wz_slB_neg_neg, ↓wz_slB_neg_var, ↓wz_slB_neg_bin, ↓wz_slB_neg_ix, ↓wz_slF_var, ↓wz_slT_var, ↓wz_slB_var_int, ↓wz_slB_var_neg, ↓wz_slB_var_var, ↓wz_slB_var_bin, ↓wz_slB_var_ix, ↓wz_slF_bin, ↓wz_slT_bin, ↓wz_slB_bin_int, ↓wz_slB_bin_neg, ↓wz_slB_bin_var, ↓wz_slB_bin_bin, ↓wz_slB_bin_ix, ↓wz_slF_ix, ↓wz_slT_ix, ↓wz_slB_ix_int, ↓wz_slB_ix_neg, ↓wz_slB_ix_var, ↓wz_slB_ix_bin, ↓wz_slB_ix_ix, ↓wz_slF_call, ↓wz_slT_call, ↓wz_slF_blt, ↓wz_slT_blt, ↓wz_lcn, ↓wz_lcc, ↓wz_forn, ↓wz_forc, consO_s, consO_n, forK_nx, forK_ct, forK_bk, forK_rt, c_isN, c_isnN, c_isT, c_isF, c_isnT, c_isnF, isNone_n, isNone_t, isNone_l, isNone_i, isNone_b, c_nel0, c_eql0, Bool.not_true, Bool.not_false, o_catL, o_catT, Nat.reduceLeDiff, ↓wz_mp, ↓wz_ms, layS_i, c_nes, c_eqs, b_gcd, take_all, e, and_self]
  · have h := of_decide_eq_false h
    have e : ht (plc sk s + t) = if 180 - (plc sk s + t) % 360 < (plc sk s + t) % 360 then 180 - (plc sk s + t) % 360 else (plc sk s + t) % 360 := by
      unfold ht
      split <;> split <;> (try split) <;> omega
    simp only [↓WP_ok, ↓WPO_some, ↓WPB_t, ↓WPB_f, ↓WP_end, ↓pst_q, ↓pso_q, ↓pth_p, ↓WPO_map, ↓wz_var, ↓wz_int, ↓wz_bl, ↓wz_non, ↓wz_str, ↓wz_gi, ↓wz_bin, ↓wz_neg, ↓wz_cmp, ↓wz_cmp2, ↓wz_conj, ↓wz_disj, ↓wz_not, ↓wz_ite, ↓wz_tup, ↓wz_lst, ↓wz_ix, ↓wz_rev, ↓wz_nop, ↓wz_call, ↓wz_blt, ↓wz_isi, ↓wz_lc, ↓wz_lcO, ↓wz_rng, ↓wz_zip, ↓wz_lrg, ↓wz_sst, ↓wz_enm, ↓wz_get, ↓wz_get2, ↓wz_esn, ↓wz_esc, ↓wz_pn, ↓wz_pc, ↓wz_mv, ↓wz_ml, ↓wz_mk, ↓wz_mt, ↓wz_asg1, ↓wz_asgt, ↓wz_new, ↓wz_par, ↓wz_put, ↓wz_app, ↓wz_aug, ↓wz_ex, ↓wz_ifs, ↓wz_fors, ↓wz_forO, ↓wz_whl, ↓wz_ret, ↓wz_retL, ↓wz_ret0, ↓wz_brk, ↓wz_cont, ↓wz_pass, ↓wz_ssn, ↓wz_ssc, ↓wz_fb, ↓wz_lcb, negD_i, notD_b, revD_l, revD_t, isiD_d, layL_cup, layL_l, sA_nil, sA_cons, nxt_nx, nxt_rt, nxt_bk, nxt_ct, view_d, o_add, o_sub, c_lt, c_le, c_gt, c_ge, c_eqi, c_nei, ix_t0, ix_t1, ix_t2, ix_l0, ix_l1, ix_c0, ix_c1, put_c0, put_c1, b_int, b_abs, b_lenT, b_lenL, b_tupL, b_tupT, b_lstL, b_lstT, b_lstS, b_min2, b_max2, someD_d, lcM_its, lcM_l, lcM_t, forM_its, forM_l, forM_t, WP_bind, guardR_t, bt_nm, bt_tp, bts_nil, bts_cons, wipe_nil, wipe_cons, tT0, tT1, tT2, tT3, tT4, tT5, tT6, tT7, tT8, tT9, tT10, tT11, tT12, tL0, tL1, tL2, tL3, tL4, tL5, tL6, tL7, tL8, tL9, tL10, tL11, tL12, tL13, tL14, tL15, tL16, opt_map_some, opt_bind_some, finF_d, finF_nx, List.getD_cons_zero, List.getD_cons_succ, List.set_cons_zero, List.set_cons_succ, List.map_cons, List.map_nil, List.length_cons, List.length_nil, List.cons_append, List.nil_append, List.replicate_succ, List.replicate_zero, Nat.reduceAdd, Nat.reduceSub, Nat.sub_self, ↓wz_lc2, ↓wz_lc2b, ↓wz_slJ, slF_i, slT_i, slB_i, slD_t, slD_l, lc2M_its, lc2M_l, lc2M_t, innL_its, innL_l, innL_t, isD_map, ↓wz_slF_int, ↓wz_slT_int, ↓wz_slB_int_int, ↓wz_slB_int_neg, ↓wz_slB_int_var, ↓wz_slB_int_bin, ↓wz_slB_int_ix, ↓wz_slF_neg, ↓wz_slT_neg, ↓wz_slB_neg_int, ↓wz_slB_neg_neg, ↓wz_slB_neg_var, ↓wz_slB_neg_bin, ↓wz_slB_neg_ix, ↓wz_slF_var, ↓wz_slT_var, ↓wz_slB_var_int, ↓wz_slB_var_neg, ↓wz_slB_var_var, ↓wz_slB_var_bin, ↓wz_slB_var_ix, ↓wz_slF_bin, ↓wz_slT_bin, ↓wz_slB_bin_int, ↓wz_slB_bin_neg, ↓wz_slB_bin_var, ↓wz_slB_bin_bin, ↓wz_slB_bin_ix, ↓wz_slF_ix, ↓wz_slT_ix, ↓wz_slB_ix_int, ↓wz_slB_ix_neg, ↓wz_slB_ix_var, ↓wz_slB_ix_bin, ↓wz_slB_ix_ix, ↓wz_slF_call, ↓wz_slT_call, ↓wz_slF_blt, ↓wz_slT_blt, ↓wz_lcn, ↓wz_lcc, ↓wz_forn, ↓wz_forc, consO_s, consO_n, forK_nx, forK_ct, forK_bk, forK_rt, c_isN, c_isnN, c_isT, c_isF, c_isnT, c_isnF, isNone_n, isNone_t, isNone_l, isNone_i, isNone_b, c_nel0, c_eql0, Bool.not_true, Bool.not_false, o_catL, o_catT, Nat.reduceLeDiff, ↓wz_mp, ↓wz_ms, layS_i, c_nes, c_eqs, b_gcd, take_all, e, and_self]
theorem ht_per (x : Int) : ht (x + 360) = ht x := by
  unfold ht
  rw [Int.add_emod_right]
theorem ht_mod (p t : Int) : ht (p + (t + 1) % 360) = ht (p + t + 1) := by
  unfold ht
  have e : (p + (t + 1) % 360) % 360 = (p + t + 1) % 360 := by omega
  rw [e]
theorem cnt0_high : ∀ h ∈ irange (-90) 91, ((irange 0 360).filter fun t => decide (ht t = h)).length = if h = 90 ∨ h = -90 then 1 else 2 := by decide +kernel
theorem cnt_high {p h : Int} (hp : 0 ≤ p) (h0 : -90 ≤ h) (h1 : h ≤ 90) : ((irange 0 360).filter fun t => decide (ht (p + t) = h)).length = if h = 90 ∨ h = -90 then 1 else 2 := by
  rw [← cnt0_high h (mem_irange.mpr ⟨h0, by omega⟩), irange_shift (fun t => decide (ht t = h))]
  obtain ⟨k, rfl⟩ : ∃ k : Nat, p = (k : Nat) := ⟨p.toNat, by omega⟩
  rw [show ((k : Nat) : Int) + 0 = (k : Nat) by omega]
  exact cnt_shift (by decide) (fun x => by rw [ht_per]) k

end Lk78

set_option Elab.async false
set_option linter.all false
set_option maxRecDepth 100000
set_option maxHeartbeats 1000000
namespace Lk78
open PySem Ob
open PySem.W (maxOf Datum)
def seenD (ps : List (Int × Int)) : PyData := .tuple (ps.map fun p => .tuple [.int p.1, .int p.2])
def od (sk : List (Int × Int)) (t : Int) (p : Int × Int) : Int := if ht (plc sk p.1 + t) - p.2 < 0 then -(ht (plc sk p.1 + t) - p.2) else ht (plc sk p.1 + t) - p.2
def offF (sk : List (Int × Int)) (ps : List (Int × Int)) (t : Int) : Int := match ps with
  | [] => 0
  | p :: r => maxOf (od sk t p) (r.map (od sk t))
theorem off_at_ev {n : Nat} (hn : 2 ≤ n) {sk : List (Int × Int)} {p : Int × Int} {r : List (Int × Int)} (h : ∀ q ∈ p :: r, 0 ≤ q.1 ∧ q.1 < slen sk) (t : Int) (M : Ms) :
    evFn fns WF n 13 [.d (skyD sk), .d (seenD (p :: r)), .d (.int t)] M = Rs.ok (.d (.int (offF sk (p :: r) t))) M := by
  obtain ⟨n, rfl, hn'⟩ := lev hn
  rw [evF f_off_at rfl rfl]
  simp only [f_off_at]
  apply WP.to_eq
  generalize e : p :: r = L at h ⊢
  simp only [↓WP_ok, ↓WPO_some, ↓WPB_t, ↓WPB_f, ↓WP_end, ↓pst_q, ↓pso_q, ↓pth_p, ↓WPO_map, ↓wz_var, ↓wz_int, ↓wz_bl, ↓wz_non, ↓wz_str, ↓wz_gi, ↓wz_bin, ↓wz_neg, ↓wz_cmp, ↓wz_cmp2, ↓wz_conj, ↓wz_disj, ↓wz_not, ↓wz_ite, ↓wz_tup, ↓wz_lst, ↓wz_ix, ↓wz_rev, ↓wz_nop, ↓wz_call, ↓wz_blt, ↓wz_isi, ↓wz_lc, ↓wz_lcO, ↓wz_rng, ↓wz_zip, ↓wz_lrg, ↓wz_sst, ↓wz_enm, ↓wz_get, ↓wz_get2, ↓wz_esn, ↓wz_esc, ↓wz_pn, ↓wz_pc, ↓wz_mv, ↓wz_ml, ↓wz_mk, ↓wz_mt, ↓wz_asg1, ↓wz_asgt, ↓wz_new, ↓wz_par, ↓wz_put, ↓wz_app, ↓wz_aug, ↓wz_ex, ↓wz_ifs, ↓wz_fors, ↓wz_forO, ↓wz_whl, ↓wz_ret, ↓wz_retL, ↓wz_ret0, ↓wz_brk, ↓wz_cont, ↓wz_pass, ↓wz_ssn, ↓wz_ssc, ↓wz_fb, ↓wz_lcb, negD_i, notD_b, revD_l, revD_t, isiD_d, layL_cup, layL_l, sA_nil, sA_cons, nxt_nx, nxt_rt, nxt_bk, nxt_ct, view_d, o_add, o_sub, c_lt, c_le, c_gt, c_ge, c_eqi, c_nei, ix_t0, ix_t1, ix_t2, ix_l0, ix_l1, ix_c0, ix_c1, put_c0, put_c1, b_int, b_abs, b_lenT, b_lenL, b_tupL, b_tupT, b_lstL, b_lstT, b_lstS, b_min2, b_max2, someD_d, lcM_its, lcM_l, lcM_t, forM_its, forM_l, forM_t, WP_bind, guardR_t, bt_nm, bt_tp, bts_nil, bts_cons, wipe_nil, wipe_cons, tT0, tT1, tT2, tT3, tT4, tT5, tT6, tT7, tT8, tT9, tT10, tT11, tT12, tL0, tL1, tL2, tL3, tL4, tL5, tL6, tL7, tL8, tL9, tL10, tL11, tL12, tL13, tL14, tL15, tL16, opt_map_some, opt_bind_some, finF_d, finF_nx, List.getD_cons_zero, List.getD_cons_succ, List.set_cons_zero, List.set_cons_succ, List.map_cons, List.map_nil, List.length_cons, List.length_nil, List.cons_append, List.nil_append, List.replicate_succ, List.replicate_zero, Nat.reduceAdd, Nat.reduceSub, Nat.sub_self, ↓wz_lc2, ↓wz_lc2b, ↓wz_slJ, slF_i, slT_i, slB_i, slD_t, slD_l, lc2M_its, lc2M_l, lc2M_t, innL_its, innL_l, innL_t, isD_map, ↓wz_slF_int, ↓wz_slT_int, ↓wz_slB_int_int, ↓wz_slB_int_neg, ↓wz_slB_int_var, ↓wz_slB_int_bin, ↓wz_slB_int_ix, ↓wz_slF_neg, ↓wz_slT_neg, ↓wz_slB_neg_int, ↓wz_slB_neg_neg, ↓wz_slB_neg_var, ↓wz_slB_neg_bin, ↓wz_slB_neg_ix, ↓wz_slF_var, ↓wz_slT_var, ↓wz_slB_var_int, ↓wz_slB_var_neg, ↓wz_slB_var_var, ↓wz_slB_var_bin, ↓wz_slB_var_ix, ↓wz_slF_bin, ↓wz_slT_bin, ↓wz_slB_bin_int, ↓wz_slB_bin_neg, ↓wz_slB_bin_var, ↓wz_slB_bin_bin, ↓wz_slB_bin_ix, ↓wz_slF_ix, ↓wz_slT_ix, ↓wz_slB_ix_int, ↓wz_slB_ix_neg, ↓wz_slB_ix_var, ↓wz_slB_ix_bin, ↓wz_slB_ix_ix, ↓wz_slF_call, ↓wz_slT_call, ↓wz_slF_blt, ↓wz_slT_blt, ↓wz_lcn, ↓wz_lcc, ↓wz_forn, ↓wz_forc, consO_s, consO_n, forK_nx, forK_ct, forK_bk, forK_rt, c_isN, c_isnN, c_isT, c_isF, c_isnT, c_isnF, isNone_n, isNone_t, isNone_l, isNone_i, isNone_b, c_nel0, c_eql0, Bool.not_true, Bool.not_false, o_catL, o_catT, Nat.reduceLeDiff, ↓wz_mp, ↓wz_ms, layS_i, c_nes, c_eqs, b_gcd, seenD]
  rw [List.map_map]
  refine WP.lcA (fun q => .int (od sk t q)) (fun q hq => ?_) ?_
  · have := h q hq
    simp only [↓WP_ok, ↓WPO_some, ↓WPB_t, ↓WPB_f, ↓WP_end, ↓pst_q, ↓pso_q, ↓pth_p, ↓WPO_map, ↓wz_var, ↓wz_int, ↓wz_bl, ↓wz_non, ↓wz_str, ↓wz_gi, ↓wz_bin, ↓wz_neg, ↓wz_cmp, ↓wz_cmp2, ↓wz_conj, ↓wz_disj, ↓wz_not, ↓wz_ite, ↓wz_tup, ↓wz_lst, ↓wz_ix, ↓wz_rev, ↓wz_nop, ↓wz_call, ↓wz_blt, ↓wz_isi, ↓wz_lc, ↓wz_lcO, ↓wz_rng, ↓wz_zip, ↓wz_lrg, ↓wz_sst, ↓wz_enm, ↓wz_get, ↓wz_get2, ↓wz_esn, ↓wz_esc, ↓wz_pn, ↓wz_pc, ↓wz_mv, ↓wz_ml, ↓wz_mk, ↓wz_mt, ↓wz_asg1, ↓wz_asgt, ↓wz_new, ↓wz_par, ↓wz_put, ↓wz_app, ↓wz_aug, ↓wz_ex, ↓wz_ifs, ↓wz_fors, ↓wz_forO, ↓wz_whl, ↓wz_ret, ↓wz_retL, ↓wz_ret0, ↓wz_brk, ↓wz_cont, ↓wz_pass, ↓wz_ssn, ↓wz_ssc, ↓wz_fb, ↓wz_lcb, negD_i, notD_b, revD_l, revD_t, isiD_d, layL_cup, layL_l, sA_nil, sA_cons, nxt_nx, nxt_rt, nxt_bk, nxt_ct, view_d, o_add, o_sub, c_lt, c_le, c_gt, c_ge, c_eqi, c_nei, ix_t0, ix_t1, ix_t2, ix_l0, ix_l1, ix_c0, ix_c1, put_c0, put_c1, b_int, b_abs, b_lenT, b_lenL, b_tupL, b_tupT, b_lstL, b_lstT, b_lstS, b_min2, b_max2, someD_d, lcM_its, lcM_l, lcM_t, forM_its, forM_l, forM_t, WP_bind, guardR_t, bt_nm, bt_tp, bts_nil, bts_cons, wipe_nil, wipe_cons, tT0, tT1, tT2, tT3, tT4, tT5, tT6, tT7, tT8, tT9, tT10, tT11, tT12, tL0, tL1, tL2, tL3, tL4, tL5, tL6, tL7, tL8, tL9, tL10, tL11, tL12, tL13, tL14, tL15, tL16, opt_map_some, opt_bind_some, finF_d, finF_nx, List.getD_cons_zero, List.getD_cons_succ, List.set_cons_zero, List.set_cons_succ, List.map_cons, List.map_nil, List.length_cons, List.length_nil, List.cons_append, List.nil_append, List.replicate_succ, List.replicate_zero, Nat.reduceAdd, Nat.reduceSub, Nat.sub_self, ↓wz_lc2, ↓wz_lc2b, ↓wz_slJ, slF_i, slT_i, slB_i, slD_t, slD_l, lc2M_its, lc2M_l, lc2M_t, innL_its, innL_l, innL_t, isD_map, ↓wz_slF_int, ↓wz_slT_int, ↓wz_slB_int_int, ↓wz_slB_int_neg, ↓wz_slB_int_var, ↓wz_slB_int_bin, ↓wz_slB_int_ix, ↓wz_slF_neg, ↓wz_slT_neg, ↓wz_slB_neg_int, ↓wz_slB_neg_neg, ↓wz_slB_neg_var, ↓wz_slB_neg_bin, ↓wz_slB_neg_ix, ↓wz_slF_var, ↓wz_slT_var, ↓wz_slB_var_int, ↓wz_slB_var_neg, ↓wz_slB_var_var, ↓wz_slB_var_bin, ↓wz_slB_var_ix, ↓wz_slF_bin, ↓wz_slT_bin, ↓wz_slB_bin_int, ↓wz_slB_bin_neg, ↓wz_slB_bin_var, ↓wz_slB_bin_bin, ↓wz_slB_bin_ix, ↓wz_slF_ix, ↓wz_slT_ix, ↓wz_slB_ix_int, ↓wz_slB_ix_neg, ↓wz_slB_ix_var, ↓wz_slB_ix_bin, ↓wz_slB_ix_ix, ↓wz_slF_call, ↓wz_slT_call, ↓wz_slF_blt, ↓wz_slT_blt, ↓wz_lcn, ↓wz_lcc, ↓wz_forn, ↓wz_forc, consO_s, consO_n, forK_nx, forK_ct, forK_bk, forK_rt, c_isN, c_isnN, c_isT, c_isF, c_isnT, c_isnF, isNone_n, isNone_t, isNone_l, isNone_i, isNone_b, c_nel0, c_eql0, Bool.not_true, Bool.not_false, o_catL, o_catT, Nat.reduceLeDiff, ↓wz_mp, ↓wz_ms, layS_i, c_nes, c_eqs, b_gcd, Function.comp]
    refine WP.eq (height_in_ev hn' this.1 this.2 t _) ?_
    simp only [↓WP_ok, ↓WPO_some, ↓WPB_t, ↓WPB_f, ↓WP_end, ↓pst_q, ↓pso_q, ↓pth_p, ↓WPO_map, ↓wz_var, ↓wz_int, ↓wz_bl, ↓wz_non, ↓wz_str, ↓wz_gi, ↓wz_bin, ↓wz_neg, ↓wz_cmp, ↓wz_cmp2, ↓wz_conj, ↓wz_disj, ↓wz_not, ↓wz_ite, ↓wz_tup, ↓wz_lst, ↓wz_ix, ↓wz_rev, ↓wz_nop, ↓wz_call, ↓wz_blt, ↓wz_isi, ↓wz_lc, ↓wz_lcO, ↓wz_rng, ↓wz_zip, ↓wz_lrg, ↓wz_sst, ↓wz_enm, ↓wz_get, ↓wz_get2, ↓wz_esn, ↓wz_esc, ↓wz_pn, ↓wz_pc, ↓wz_mv, ↓wz_ml, ↓wz_mk, ↓wz_mt, ↓wz_asg1, ↓wz_asgt, ↓wz_new, ↓wz_par, ↓wz_put, ↓wz_app, ↓wz_aug, ↓wz_ex, ↓wz_ifs, ↓wz_fors, ↓wz_forO, ↓wz_whl, ↓wz_ret, ↓wz_retL, ↓wz_ret0, ↓wz_brk, ↓wz_cont, ↓wz_pass, ↓wz_ssn, ↓wz_ssc, ↓wz_fb, ↓wz_lcb, negD_i, notD_b, revD_l, revD_t, isiD_d, layL_cup, layL_l, sA_nil, sA_cons, nxt_nx, nxt_rt, nxt_bk, nxt_ct, view_d, o_add, o_sub, c_lt, c_le, c_gt, c_ge, c_eqi, c_nei, ix_t0, ix_t1, ix_t2, ix_l0, ix_l1, ix_c0, ix_c1, put_c0, put_c1, b_int, b_abs, b_lenT, b_lenL, b_tupL, b_tupT, b_lstL, b_lstT, b_lstS, b_min2, b_max2, someD_d, lcM_its, lcM_l, lcM_t, forM_its, forM_l, forM_t, WP_bind, guardR_t, bt_nm, bt_tp, bts_nil, bts_cons, wipe_nil, wipe_cons, tT0, tT1, tT2, tT3, tT4, tT5, tT6, tT7, tT8, tT9, tT10, tT11, tT12, tL0, tL1, tL2, tL3, tL4, tL5, tL6, tL7, tL8, tL9, tL10, tL11, tL12, tL13, tL14, tL15, tL16, opt_map_some, opt_bind_some, finF_d, finF_nx, List.getD_cons_zero, List.getD_cons_succ, List.set_cons_zero, List.set_cons_succ, List.map_cons, List.map_nil, List.length_cons, List.length_nil, List.cons_append, List.nil_append, List.replicate_succ, List.replicate_zero, Nat.reduceAdd, Nat.reduceSub, Nat.sub_self, ↓wz_lc2, ↓wz_lc2b, ↓wz_slJ, slF_i, slT_i, slB_i, slD_t, slD_l, lc2M_its, lc2M_l, lc2M_t, innL_its, innL_l, innL_t, isD_map, ↓wz_slF_int, ↓wz_slT_int, ↓wz_slB_int_int, ↓wz_slB_int_neg, ↓wz_slB_int_var, ↓wz_slB_int_bin, ↓wz_slB_int_ix, ↓wz_slF_neg, ↓wz_slT_neg, ↓wz_slB_neg_int, ↓wz_slB_neg_neg, ↓wz_slB_neg_var, ↓wz_slB_neg_bin, ↓wz_slB_neg_ix, ↓wz_slF_var, ↓wz_slT_var, ↓wz_slB_var_int, ↓wz_slB_var_neg, ↓wz_slB_var_var, ↓wz_slB_var_bin, ↓wz_slB_var_ix, ↓wz_slF_bin, ↓wz_slT_bin, ↓wz_slB_bin_int, ↓wz_slB_bin_neg, ↓wz_slB_bin_var, ↓wz_slB_bin_bin, ↓wz_slB_bin_ix, ↓wz_slF_ix, ↓wz_slT_ix, ↓wz_slB_ix_int, ↓wz_slB_ix_neg, ↓wz_slB_ix_var, ↓wz_slB_ix_bin, ↓wz_slB_ix_ix, ↓wz_slF_call, ↓wz_slT_call, ↓wz_slF_blt, ↓wz_slT_blt, ↓wz_lcn, ↓wz_lcc, ↓wz_forn, ↓wz_forc, consO_s, consO_n, forK_nx, forK_ct, forK_bk, forK_rt, c_isN, c_isnN, c_isT, c_isF, c_isnT, c_isnF, isNone_n, isNone_t, isNone_l, isNone_i, isNone_b, c_nel0, c_eql0, Bool.not_true, Bool.not_false, o_catL, o_catT, Nat.reduceLeDiff, ↓wz_mp, ↓wz_ms, layS_i, c_nes, c_eqs, b_gcd]
    exact ⟨rfl, by trivial⟩
  subst e
  have bm := fun M => b_max (od sk t p) (r.map (od sk t)) M (by decide)
  rw [show (p :: r).map (fun q => PyData.int (od sk t q)) = (od sk t p :: r.map (od sk t)).map Datum.toD by rw [List.map_cons, List.map_cons, List.map_map]; rfl]
  simp only [↓WP_ok, ↓WPO_some, ↓WPB_t, ↓WPB_f, ↓WP_end, ↓pst_q, ↓pso_q, ↓pth_p, ↓WPO_map, ↓wz_var, ↓wz_int, ↓wz_bl, ↓wz_non, ↓wz_str, ↓wz_gi, ↓wz_bin, ↓wz_neg, ↓wz_cmp, ↓wz_cmp2, ↓wz_conj, ↓wz_disj, ↓wz_not, ↓wz_ite, ↓wz_tup, ↓wz_lst, ↓wz_ix, ↓wz_rev, ↓wz_nop, ↓wz_call, ↓wz_blt, ↓wz_isi, ↓wz_lc, ↓wz_lcO, ↓wz_rng, ↓wz_zip, ↓wz_lrg, ↓wz_sst, ↓wz_enm, ↓wz_get, ↓wz_get2, ↓wz_esn, ↓wz_esc, ↓wz_pn, ↓wz_pc, ↓wz_mv, ↓wz_ml, ↓wz_mk, ↓wz_mt, ↓wz_asg1, ↓wz_asgt, ↓wz_new, ↓wz_par, ↓wz_put, ↓wz_app, ↓wz_aug, ↓wz_ex, ↓wz_ifs, ↓wz_fors, ↓wz_forO, ↓wz_whl, ↓wz_ret, ↓wz_retL, ↓wz_ret0, ↓wz_brk, ↓wz_cont, ↓wz_pass, ↓wz_ssn, ↓wz_ssc, ↓wz_fb, ↓wz_lcb, negD_i, notD_b, revD_l, revD_t, isiD_d, layL_cup, layL_l, sA_nil, sA_cons, nxt_nx, nxt_rt, nxt_bk, nxt_ct, view_d, o_add, o_sub, c_lt, c_le, c_gt, c_ge, c_eqi, c_nei, ix_t0, ix_t1, ix_t2, ix_l0, ix_l1, ix_c0, ix_c1, put_c0, put_c1, b_int, b_abs, b_lenT, b_lenL, b_tupL, b_tupT, b_lstL, b_lstT, b_lstS, b_min2, b_max2, someD_d, lcM_its, lcM_l, lcM_t, forM_its, forM_l, forM_t, WP_bind, guardR_t, bt_nm, bt_tp, bts_nil, bts_cons, wipe_nil, wipe_cons, tT0, tT1, tT2, tT3, tT4, tT5, tT6, tT7, tT8, tT9, tT10, tT11, tT12, tL0, tL1, tL2, tL3, tL4, tL5, tL6, tL7, tL8, tL9, tL10, tL11, tL12, tL13, tL14, tL15, tL16, opt_map_some, opt_bind_some, finF_d, finF_nx, List.getD_cons_zero, List.getD_cons_succ, List.set_cons_zero, List.set_cons_succ, List.map_cons, List.map_nil, List.length_cons, List.length_nil, List.cons_append, List.nil_append, List.replicate_succ, List.replicate_zero, Nat.reduceAdd, Nat.reduceSub, Nat.sub_self, ↓wz_lc2, ↓wz_lc2b, ↓wz_slJ, slF_i, slT_i, slB_i, slD_t, slD_l, lc2M_its, lc2M_l, lc2M_t, innL_its, innL_l, innL_t, isD_map, ↓wz_slF_int, ↓wz_slT_int, ↓wz_slB_int_int, ↓wz_slB_int_neg, ↓wz_slB_int_var, ↓wz_slB_int_bin, ↓wz_slB_int_ix, ↓wz_slF_neg, ↓wz_slT_neg, ↓wz_slB_neg_int, ↓wz_slB_neg_neg, ↓wz_slB_neg_var, ↓wz_slB_neg_bin, ↓wz_slB_neg_ix, ↓wz_slF_var, ↓wz_slT_var, ↓wz_slB_var_int, ↓wz_slB_var_neg, ↓wz_slB_var_var, ↓wz_slB_var_bin, ↓wz_slB_var_ix, ↓wz_slF_bin, ↓wz_slT_bin, ↓wz_slB_bin_int, ↓wz_slB_bin_neg, ↓wz_slB_bin_var, ↓wz_slB_bin_bin, ↓wz_slB_bin_ix, ↓wz_slF_ix, ↓wz_slT_ix, ↓wz_slB_ix_int, ↓wz_slB_ix_neg, ↓wz_slB_ix_var, ↓wz_slB_ix_bin, ↓wz_slB_ix_ix, ↓wz_slF_call, ↓wz_slT_call, ↓wz_slF_blt, ↓wz_slT_blt, ↓wz_lcn, ↓wz_lcc, ↓wz_forn, ↓wz_forc, consO_s, consO_n, forK_nx, forK_ct, forK_bk, forK_rt, c_isN, c_isnN, c_isT, c_isF, c_isnT, c_isnF, isNone_n, isNone_t, isNone_l, isNone_i, isNone_b, c_nel0, c_eql0, Bool.not_true, Bool.not_false, o_catL, o_catT, Nat.reduceLeDiff, ↓wz_mp, ↓wz_ms, layS_i, c_nes, c_eqs, b_gcd, bm, take_all, -List.map_cons]
  exact ⟨rfl, by trivial⟩
end Lk78

set_option Elab.async false
set_option linter.all false
set_option maxRecDepth 100000
set_option maxHeartbeats 1000000
namespace Lk78
open PySem Ob
open PySem.W (maxOf minOf Datum DatumOrd)
structure Seen (sk ps : List (Int × Int)) : Prop where
  lot : Lot (slen sk) (ps.map (·.1))
  ne : ps ≠ []
  hi : ∀ p ∈ ps, -90 ≤ p.2 ∧ p.2 ≤ 90
theorem Seen.ok {sk ps : List (Int × Int)} (h : Seen sk ps) {p : Int × Int} (hp : p ∈ ps) : 0 ≤ p.1 ∧ p.1 < slen sk := h.lot.ok _ (List.mem_map_of_mem hp)
theorem seen_ok {sk ps : List (Int × Int)} (h : Seen sk ps) (hm : 0 ≤ slen sk) : fitsSeen (slen sk) (seenD ps) = true := by
  unfold seenD
  rw [fitsSeen_t]
  have e : (ps.map fun p => PyData.tuple [.int p.1, .int p.2]).map fstD = (ps.map (·.1)).map .int := by rw [List.map_map, List.map_map]; rfl
  have h1 := lot_len h.lot hm
  have h2 : 0 < ps.length := List.length_pos_iff.mpr h.ne
  have h3 := fits_lot h.lot hm
  unfold intD at h3
  rw [List.length_map] at h1
  rw [e, h3]
  simp only [Bool.and_true, Bool.and_eq_true, isTp, List.length_map, decide_eq_true_eq, List.all_eq_true]
  refine ⟨⟨by omega, ?_⟩, ?_⟩
  · intro x hx
    obtain ⟨p, _, rfl⟩ := List.mem_map.mp hx
    rfl
  · intro x hx
    obtain ⟨p, hp, rfl⟩ := List.mem_map.mp hx
    exact isW_in (h.hi p hp).1 (h.hi p hp).2
theorem need_seen_ev {n : Nat} (hn : 5 ≤ n) {sk ps : List (Int × Int)} (hs : Sky 24 sk) (h : Seen sk ps) (M : Ms) : evFn fns WF n 11 [.d (skyD sk), .d (seenD ps)] M = Rs.ok (.d .none) M := by
  obtain ⟨n, rfl, hn'⟩ := lev hn
  rw [evF f_need_seen rfl rfl]
  simp only [f_need_seen]
  have hl := slen_ok hs
  apply WP.to_eq
  simp only [↓WP_ok, ↓WPO_some, ↓WPB_t, ↓WPB_f, ↓WP_end, ↓pst_q, ↓pso_q, ↓pth_p, ↓WPO_map, ↓wz_var, ↓wz_int, ↓wz_bl, ↓wz_non, ↓wz_str, ↓wz_gi, ↓wz_bin, ↓wz_neg, ↓wz_cmp, ↓wz_cmp2, ↓wz_conj, ↓wz_disj, ↓wz_not, ↓wz_ite, ↓wz_tup, ↓wz_lst, ↓wz_ix, ↓wz_rev, ↓wz_nop, ↓wz_call, ↓wz_blt, ↓wz_isi, ↓wz_lc, ↓wz_lcO, ↓wz_rng, ↓wz_zip, ↓wz_lrg, ↓wz_sst, ↓wz_enm, ↓wz_get, ↓wz_get2, ↓wz_esn, ↓wz_esc, ↓wz_pn, ↓wz_pc, ↓wz_mv, ↓wz_ml, ↓wz_mk, ↓wz_mt, ↓wz_asg1, ↓wz_asgt, ↓wz_new, ↓wz_par, ↓wz_put, ↓wz_app, ↓wz_aug, ↓wz_ex, ↓wz_ifs, ↓wz_fors, ↓wz_forO, ↓wz_whl, ↓wz_ret, ↓wz_retL, ↓wz_ret0, ↓wz_brk, ↓wz_cont, ↓wz_pass, ↓wz_ssn, ↓wz_ssc, ↓wz_fb, ↓wz_lcb, negD_i, notD_b, revD_l, revD_t, isiD_d, layL_cup, layL_l, sA_nil, sA_cons, nxt_nx, nxt_rt, nxt_bk, nxt_ct, view_d, o_add, o_sub, c_lt, c_le, c_gt, c_ge, c_eqi, c_nei, ix_t0, ix_t1, ix_t2, ix_l0, ix_l1, ix_c0, ix_c1, put_c0, put_c1, b_int, b_abs, b_lenT, b_lenL, b_tupL, b_tupT, b_lstL, b_lstT, b_lstS, b_min2, b_max2, someD_d, lcM_its, lcM_l, lcM_t, forM_its, forM_l, forM_t, WP_bind, guardR_t, bt_nm, bt_tp, bts_nil, bts_cons, wipe_nil, wipe_cons, tT0, tT1, tT2, tT3, tT4, tT5, tT6, tT7, tT8, tT9, tT10, tT11, tT12, tL0, tL1, tL2, tL3, tL4, tL5, tL6, tL7, tL8, tL9, tL10, tL11, tL12, tL13, tL14, tL15, tL16, opt_map_some, opt_bind_some, finF_d, finF_nx, List.getD_cons_zero, List.getD_cons_succ, List.set_cons_zero, List.set_cons_succ, List.map_cons, List.map_nil, List.length_cons, List.length_nil, List.cons_append, List.nil_append, List.replicate_succ, List.replicate_zero, Nat.reduceAdd, Nat.reduceSub, Nat.sub_self, ↓wz_lc2, ↓wz_lc2b, ↓wz_slJ, slF_i, slT_i, slB_i, slD_t, slD_l, lc2M_its, lc2M_l, lc2M_t, innL_its, innL_l, innL_t, isD_map, ↓wz_slF_int, ↓wz_slT_int, ↓wz_slB_int_int, ↓wz_slB_int_neg, ↓wz_slB_int_var, ↓wz_slB_int_bin, ↓wz_slB_int_ix, ↓wz_slF_neg, ↓wz_slT_neg, ↓wz_slB_neg_int, ↓wz_slB_neg_neg, ↓wz_slB_neg_var, ↓wz_slB_neg_bin, ↓wz_slB_neg_ix, ↓wz_slF_var, ↓wz_slT_var, ↓wz_slB_var_int, ↓wz_slB_var_neg, ↓wz_slB_var_var, ↓wz_slB_var_bin, ↓wz_slB_var_ix, ↓wz_slF_bin, ↓wz_slT_bin, ↓wz_slB_bin_int, ↓wz_slB_bin_neg, ↓wz_slB_bin_var, ↓wz_slB_bin_bin, ↓wz_slB_bin_ix, ↓wz_slF_ix, ↓wz_slT_ix, ↓wz_slB_ix_int, ↓wz_slB_ix_neg, ↓wz_slB_ix_var, ↓wz_slB_ix_bin, ↓wz_slB_ix_ix, ↓wz_slF_call, ↓wz_slT_call, ↓wz_slF_blt, ↓wz_slT_blt, ↓wz_lcn, ↓wz_lcc, ↓wz_forn, ↓wz_forc, consO_s, consO_n, forK_nx, forK_ct, forK_bk, forK_rt, c_isN, c_isnN, c_isT, c_isF, c_isnT, c_isnF, isNone_n, isNone_t, isNone_l, isNone_i, isNone_b, c_nel0, c_eql0, Bool.not_true, Bool.not_false, o_catL, o_catT, Nat.reduceLeDiff, ↓wz_mp, ↓wz_ms, layS_i, c_nes, c_eqs, b_gcd]
  refine WP.eq (nsk.ev n (by omega) sk M hs) ?_
  simp only [↓WP_ok, ↓WPO_some, ↓WPB_t, ↓WPB_f, ↓WP_end, ↓pst_q, ↓pso_q, ↓pth_p, ↓WPO_map, ↓wz_var, ↓wz_int, ↓wz_bl, ↓wz_non, ↓wz_str, ↓wz_gi, ↓wz_bin, ↓wz_neg, ↓wz_cmp, ↓wz_cmp2, ↓wz_conj, ↓wz_disj, ↓wz_not, ↓wz_ite, ↓wz_tup, ↓wz_lst, ↓wz_ix, ↓wz_rev, ↓wz_nop, ↓wz_call, ↓wz_blt, ↓wz_isi, ↓wz_lc, ↓wz_lcO, ↓wz_rng, ↓wz_zip, ↓wz_lrg, ↓wz_sst, ↓wz_enm, ↓wz_get, ↓wz_get2, ↓wz_esn, ↓wz_esc, ↓wz_pn, ↓wz_pc, ↓wz_mv, ↓wz_ml, ↓wz_mk, ↓wz_mt, ↓wz_asg1, ↓wz_asgt, ↓wz_new, ↓wz_par, ↓wz_put, ↓wz_app, ↓wz_aug, ↓wz_ex, ↓wz_ifs, ↓wz_fors, ↓wz_forO, ↓wz_whl, ↓wz_ret, ↓wz_retL, ↓wz_ret0, ↓wz_brk, ↓wz_cont, ↓wz_pass, ↓wz_ssn, ↓wz_ssc, ↓wz_fb, ↓wz_lcb, negD_i, notD_b, revD_l, revD_t, isiD_d, layL_cup, layL_l, sA_nil, sA_cons, nxt_nx, nxt_rt, nxt_bk, nxt_ct, view_d, o_add, o_sub, c_lt, c_le, c_gt, c_ge, c_eqi, c_nei, ix_t0, ix_t1, ix_t2, ix_l0, ix_l1, ix_c0, ix_c1, put_c0, put_c1, b_int, b_abs, b_lenT, b_lenL, b_tupL, b_tupT, b_lstL, b_lstT, b_lstS, b_min2, b_max2, someD_d, lcM_its, lcM_l, lcM_t, forM_its, forM_l, forM_t, WP_bind, guardR_t, bt_nm, bt_tp, bts_nil, bts_cons, wipe_nil, wipe_cons, tT0, tT1, tT2, tT3, tT4, tT5, tT6, tT7, tT8, tT9, tT10, tT11, tT12, tL0, tL1, tL2, tL3, tL4, tL5, tL6, tL7, tL8, tL9, tL10, tL11, tL12, tL13, tL14, tL15, tL16, opt_map_some, opt_bind_some, finF_d, finF_nx, List.getD_cons_zero, List.getD_cons_succ, List.set_cons_zero, List.set_cons_succ, List.map_cons, List.map_nil, List.length_cons, List.length_nil, List.cons_append, List.nil_append, List.replicate_succ, List.replicate_zero, Nat.reduceAdd, Nat.reduceSub, Nat.sub_self, ↓wz_lc2, ↓wz_lc2b, ↓wz_slJ, slF_i, slT_i, slB_i, slD_t, slD_l, lc2M_its, lc2M_l, lc2M_t, innL_its, innL_l, innL_t, isD_map, ↓wz_slF_int, ↓wz_slT_int, ↓wz_slB_int_int, ↓wz_slB_int_neg, ↓wz_slB_int_var, ↓wz_slB_int_bin, ↓wz_slB_int_ix, ↓wz_slF_neg, ↓wz_slT_neg, ↓wz_slB_neg_int, ↓wz_slB_neg_neg, ↓wz_slB_neg_var, ↓wz_slB_neg_bin, ↓wz_slB_neg_ix, ↓wz_slF_var, ↓wz_slT_var, ↓wz_slB_var_int, ↓wz_slB_var_neg, ↓wz_slB_var_var, ↓wz_slB_var_bin, ↓wz_slB_var_ix, ↓wz_slF_bin, ↓wz_slT_bin, ↓wz_slB_bin_int, ↓wz_slB_bin_neg, ↓wz_slB_bin_var, ↓wz_slB_bin_bin, ↓wz_slB_bin_ix, ↓wz_slF_ix, ↓wz_slT_ix, ↓wz_slB_ix_int, ↓wz_slB_ix_neg, ↓wz_slB_ix_var, ↓wz_slB_ix_bin, ↓wz_slB_ix_ix, ↓wz_slF_call, ↓wz_slT_call, ↓wz_slF_blt, ↓wz_slT_blt, ↓wz_lcn, ↓wz_lcc, ↓wz_forn, ↓wz_forc, consO_s, consO_n, forK_nx, forK_ct, forK_bk, forK_rt, c_isN, c_isnN, c_isT, c_isF, c_isnT, c_isnF, isNone_n, isNone_t, isNone_l, isNone_i, isNone_b, c_nel0, c_eql0, Bool.not_true, Bool.not_false, o_catL, o_catT, Nat.reduceLeDiff, ↓wz_mp, ↓wz_ms, layS_i, c_nes, c_eqs, b_gcd]
  refine WP.eq (fits_seen_ev (by omega) hs _ M) ?_
  simp only [↓WP_ok, ↓WPO_some, ↓WPB_t, ↓WPB_f, ↓WP_end, ↓pst_q, ↓pso_q, ↓pth_p, ↓WPO_map, ↓wz_var, ↓wz_int, ↓wz_bl, ↓wz_non, ↓wz_str, ↓wz_gi, ↓wz_bin, ↓wz_neg, ↓wz_cmp, ↓wz_cmp2, ↓wz_conj, ↓wz_disj, ↓wz_not, ↓wz_ite, ↓wz_tup, ↓wz_lst, ↓wz_ix, ↓wz_rev, ↓wz_nop, ↓wz_call, ↓wz_blt, ↓wz_isi, ↓wz_lc, ↓wz_lcO, ↓wz_rng, ↓wz_zip, ↓wz_lrg, ↓wz_sst, ↓wz_enm, ↓wz_get, ↓wz_get2, ↓wz_esn, ↓wz_esc, ↓wz_pn, ↓wz_pc, ↓wz_mv, ↓wz_ml, ↓wz_mk, ↓wz_mt, ↓wz_asg1, ↓wz_asgt, ↓wz_new, ↓wz_par, ↓wz_put, ↓wz_app, ↓wz_aug, ↓wz_ex, ↓wz_ifs, ↓wz_fors, ↓wz_forO, ↓wz_whl, ↓wz_ret, ↓wz_retL, ↓wz_ret0, ↓wz_brk, ↓wz_cont, ↓wz_pass, ↓wz_ssn, ↓wz_ssc, ↓wz_fb, ↓wz_lcb, negD_i, notD_b, revD_l, revD_t, isiD_d, layL_cup, layL_l, sA_nil, sA_cons, nxt_nx, nxt_rt, nxt_bk, nxt_ct, view_d, o_add, o_sub, c_lt, c_le, c_gt, c_ge, c_eqi, c_nei, ix_t0, ix_t1, ix_t2, ix_l0, ix_l1, ix_c0, ix_c1, put_c0, put_c1, b_int, b_abs, b_lenT, b_lenL, b_tupL, b_tupT, b_lstL, b_lstT, b_lstS, b_min2, b_max2, someD_d, lcM_its, lcM_l, lcM_t, forM_its, forM_l, forM_t, WP_bind, guardR_t, bt_nm, bt_tp, bts_nil, bts_cons, wipe_nil, wipe_cons, tT0, tT1, tT2, tT3, tT4, tT5, tT6, tT7, tT8, tT9, tT10, tT11, tT12, tL0, tL1, tL2, tL3, tL4, tL5, tL6, tL7, tL8, tL9, tL10, tL11, tL12, tL13, tL14, tL15, tL16, opt_map_some, opt_bind_some, finF_d, finF_nx, List.getD_cons_zero, List.getD_cons_succ, List.set_cons_zero, List.set_cons_succ, List.map_cons, List.map_nil, List.length_cons, List.length_nil, List.cons_append, List.nil_append, List.replicate_succ, List.replicate_zero, Nat.reduceAdd, Nat.reduceSub, Nat.sub_self, ↓wz_lc2, ↓wz_lc2b, ↓wz_slJ, slF_i, slT_i, slB_i, slD_t, slD_l, lc2M_its, lc2M_l, lc2M_t, innL_its, innL_l, innL_t, isD_map, ↓wz_slF_int, ↓wz_slT_int, ↓wz_slB_int_int, ↓wz_slB_int_neg, ↓wz_slB_int_var, ↓wz_slB_int_bin, ↓wz_slB_int_ix, ↓wz_slF_neg, ↓wz_slT_neg, ↓wz_slB_neg_int, ↓wz_slB_neg_neg, ↓wz_slB_neg_var, ↓wz_slB_neg_bin, ↓wz_slB_neg_ix, ↓wz_slF_var, ↓wz_slT_var, ↓wz_slB_var_int, ↓wz_slB_var_neg, ↓wz_slB_var_var, ↓wz_slB_var_bin, ↓wz_slB_var_ix, ↓wz_slF_bin, ↓wz_slT_bin, ↓wz_slB_bin_int, ↓wz_slB_bin_neg, ↓wz_slB_bin_var, ↓wz_slB_bin_bin, ↓wz_slB_bin_ix, ↓wz_slF_ix, ↓wz_slT_ix, ↓wz_slB_ix_int, ↓wz_slB_ix_neg, ↓wz_slB_ix_var, ↓wz_slB_ix_bin, ↓wz_slB_ix_ix, ↓wz_slF_call, ↓wz_slT_call, ↓wz_slF_blt, ↓wz_slT_blt, ↓wz_lcn, ↓wz_lcc, ↓wz_forn, ↓wz_forc, consO_s, consO_n, forK_nx, forK_ct, forK_bk, forK_rt, c_isN, c_isnN, c_isT, c_isF, c_isnT, c_isnF, isNone_n, isNone_t, isNone_l, isNone_i, isNone_b, c_nel0, c_eql0, Bool.not_true, Bool.not_false, o_catL, o_catT, Nat.reduceLeDiff, ↓wz_mp, ↓wz_ms, layS_i, c_nes, c_eqs, b_gcd, seen_ok h (by omega), Bool.not_true, take_all, and_self]
theorem need_slack_ev {n : Nat} (hn : 2 ≤ n) {s : Int} (h0 : 0 ≤ s) (h1 : s ≤ 180) (M : Ms) : evFn fns WF n 9 [.d (.int s)] M = Rs.ok (.d .none) M := by
  obtain ⟨n, rfl, hn'⟩ := lev hn
  rw [evF f_need_slack rfl rfl]
  simp only [f_need_slack]
  apply WP.to_eq
  simp only [↓WP_ok, ↓WPO_some, ↓WPB_t, ↓WPB_f, ↓WP_end, ↓pst_q, ↓pso_q, ↓pth_p, ↓WPO_map, ↓wz_var, ↓wz_int, ↓wz_bl, ↓wz_non, ↓wz_str, ↓wz_gi, ↓wz_bin, ↓wz_neg, ↓wz_cmp, ↓wz_cmp2, ↓wz_conj, ↓wz_disj, ↓wz_not, ↓wz_ite, ↓wz_tup, ↓wz_lst, ↓wz_ix, ↓wz_rev, ↓wz_nop, ↓wz_call, ↓wz_blt, ↓wz_isi, ↓wz_lc, ↓wz_lcO, ↓wz_rng, ↓wz_zip, ↓wz_lrg, ↓wz_sst, ↓wz_enm, ↓wz_get, ↓wz_get2, ↓wz_esn, ↓wz_esc, ↓wz_pn, ↓wz_pc, ↓wz_mv, ↓wz_ml, ↓wz_mk, ↓wz_mt, ↓wz_asg1, ↓wz_asgt, ↓wz_new, ↓wz_par, ↓wz_put, ↓wz_app, ↓wz_aug, ↓wz_ex, ↓wz_ifs, ↓wz_fors, ↓wz_forO, ↓wz_whl, ↓wz_ret, ↓wz_retL, ↓wz_ret0, ↓wz_brk, ↓wz_cont, ↓wz_pass, ↓wz_ssn, ↓wz_ssc, ↓wz_fb, ↓wz_lcb, negD_i, notD_b, revD_l, revD_t, isiD_d, layL_cup, layL_l, sA_nil, sA_cons, nxt_nx, nxt_rt, nxt_bk, nxt_ct, view_d, o_add, o_sub, c_lt, c_le, c_gt, c_ge, c_eqi, c_nei, ix_t0, ix_t1, ix_t2, ix_l0, ix_l1, ix_c0, ix_c1, put_c0, put_c1, b_int, b_abs, b_lenT, b_lenL, b_tupL, b_tupT, b_lstL, b_lstT, b_lstS, b_min2, b_max2, someD_d, lcM_its, lcM_l, lcM_t, forM_its, forM_l, forM_t, WP_bind, guardR_t, bt_nm, bt_tp, bts_nil, bts_cons, wipe_nil, wipe_cons, tT0, tT1, tT2, tT3, tT4, tT5, tT6, tT7, tT8, tT9, tT10, tT11, tT12, tL0, tL1, tL2, tL3, tL4, tL5, tL6, tL7, tL8, tL9, tL10, tL11, tL12, tL13, tL14, tL15, tL16, opt_map_some, opt_bind_some, finF_d, finF_nx, List.getD_cons_zero, List.getD_cons_succ, List.set_cons_zero, List.set_cons_succ, List.map_cons, List.map_nil, List.length_cons, List.length_nil, List.cons_append, List.nil_append, List.replicate_succ, List.replicate_zero, Nat.reduceAdd, Nat.reduceSub, Nat.sub_self, ↓wz_lc2, ↓wz_lc2b, ↓wz_slJ, slF_i, slT_i, slB_i, slD_t, slD_l, lc2M_its, lc2M_l, lc2M_t, innL_its, innL_l, innL_t, isD_map, ↓wz_slF_int, ↓wz_slT_int, ↓wz_slB_int_int, ↓wz_slB_int_neg, ↓wz_slB_int_var, ↓wz_slB_int_bin, ↓wz_slB_int_ix, ↓wz_slF_neg, ↓wz_slT_neg, ↓wz_slB_neg_int, ↓wz_slB_neg_neg, ↓wz_slB_neg_var, ↓wz_slB_neg_bin, ↓wz_slB_neg_ix, ↓wz_slF_var, ↓wz_slT_var, ↓wz_slB_var_int, ↓wz_slB_var_neg, ↓wz_slB_var_var, ↓wz_slB_var_bin, ↓wz_slB_var_ix, ↓wz_slF_bin, ↓wz_slT_bin, ↓wz_slB_bin_int, ↓wz_slB_bin_neg, ↓wz_slB_bin_var, ↓wz_slB_bin_bin, ↓wz_slB_bin_ix, ↓wz_slF_ix, ↓wz_slT_ix, ↓wz_slB_ix_int, ↓wz_slB_ix_neg, ↓wz_slB_ix_var, ↓wz_slB_ix_bin, ↓wz_slB_ix_ix, ↓wz_slF_call, ↓wz_slT_call, ↓wz_slF_blt, ↓wz_slT_blt, ↓wz_lcn, ↓wz_lcc, ↓wz_forn, ↓wz_forc, consO_s, consO_n, forK_nx, forK_ct, forK_bk, forK_rt, c_isN, c_isnN, c_isT, c_isF, c_isnT, c_isnF, isNone_n, isNone_t, isNone_l, isNone_i, isNone_b, c_nel0, c_eql0, Bool.not_true, Bool.not_false, o_catL, o_catT, Nat.reduceLeDiff, ↓wz_mp, ↓wz_ms, layS_i, c_nes, c_eqs, b_gcd, o_mul (i := 2) (j := 90) _ (.inl (by decide))]
  refine WP.eq (wh.ev n hn' _ _ _ _) ?_
  simp only [↓WP_ok, ↓WPO_some, ↓WPB_t, ↓WPB_f, ↓WP_end, ↓pst_q, ↓pso_q, ↓pth_p, ↓WPO_map, ↓wz_var, ↓wz_int, ↓wz_bl, ↓wz_non, ↓wz_str, ↓wz_gi, ↓wz_bin, ↓wz_neg, ↓wz_cmp, ↓wz_cmp2, ↓wz_conj, ↓wz_disj, ↓wz_not, ↓wz_ite, ↓wz_tup, ↓wz_lst, ↓wz_ix, ↓wz_rev, ↓wz_nop, ↓wz_call, ↓wz_blt, ↓wz_isi, ↓wz_lc, ↓wz_lcO, ↓wz_rng, ↓wz_zip, ↓wz_lrg, ↓wz_sst, ↓wz_enm, ↓wz_get, ↓wz_get2, ↓wz_esn, ↓wz_esc, ↓wz_pn, ↓wz_pc, ↓wz_mv, ↓wz_ml, ↓wz_mk, ↓wz_mt, ↓wz_asg1, ↓wz_asgt, ↓wz_new, ↓wz_par, ↓wz_put, ↓wz_app, ↓wz_aug, ↓wz_ex, ↓wz_ifs, ↓wz_fors, ↓wz_forO, ↓wz_whl, ↓wz_ret, ↓wz_retL, ↓wz_ret0, ↓wz_brk, ↓wz_cont, ↓wz_pass, ↓wz_ssn, ↓wz_ssc, ↓wz_fb, ↓wz_lcb, negD_i, notD_b, revD_l, revD_t, isiD_d, layL_cup, layL_l, sA_nil, sA_cons, nxt_nx, nxt_rt, nxt_bk, nxt_ct, view_d, o_add, o_sub, c_lt, c_le, c_gt, c_ge, c_eqi, c_nei, ix_t0, ix_t1, ix_t2, ix_l0, ix_l1, ix_c0, ix_c1, put_c0, put_c1, b_int, b_abs, b_lenT, b_lenL, b_tupL, b_tupT, b_lstL, b_lstT, b_lstS, b_min2, b_max2, someD_d, lcM_its, lcM_l, lcM_t, forM_its, forM_l, forM_t, WP_bind, guardR_t, bt_nm, bt_tp, bts_nil, bts_cons, wipe_nil, wipe_cons, tT0, tT1, tT2, tT3, tT4, tT5, tT6, tT7, tT8, tT9, tT10, tT11, tT12, tL0, tL1, tL2, tL3, tL4, tL5, tL6, tL7, tL8, tL9, tL10, tL11, tL12, tL13, tL14, tL15, tL16, opt_map_some, opt_bind_some, finF_d, finF_nx, List.getD_cons_zero, List.getD_cons_succ, List.set_cons_zero, List.set_cons_succ, List.map_cons, List.map_nil, List.length_cons, List.length_nil, List.cons_append, List.nil_append, List.replicate_succ, List.replicate_zero, Nat.reduceAdd, Nat.reduceSub, Nat.sub_self, ↓wz_lc2, ↓wz_lc2b, ↓wz_slJ, slF_i, slT_i, slB_i, slD_t, slD_l, lc2M_its, lc2M_l, lc2M_t, innL_its, innL_l, innL_t, isD_map, ↓wz_slF_int, ↓wz_slT_int, ↓wz_slB_int_int, ↓wz_slB_int_neg, ↓wz_slB_int_var, ↓wz_slB_int_bin, ↓wz_slB_int_ix, ↓wz_slF_neg, ↓wz_slT_neg, ↓wz_slB_neg_int, ↓wz_slB_neg_neg, ↓wz_slB_neg_var, ↓wz_slB_neg_bin, ↓wz_slB_neg_ix, ↓wz_slF_var, ↓wz_slT_var, ↓wz_slB_var_int, ↓wz_slB_var_neg, ↓wz_slB_var_var, ↓wz_slB_var_bin, ↓wz_slB_var_ix, ↓wz_slF_bin, ↓wz_slT_bin, ↓wz_slB_bin_int, ↓wz_slB_bin_neg, ↓wz_slB_bin_var, ↓wz_slB_bin_bin, ↓wz_slB_bin_ix, ↓wz_slF_ix, ↓wz_slT_ix, ↓wz_slB_ix_int, ↓wz_slB_ix_neg, ↓wz_slB_ix_var, ↓wz_slB_ix_bin, ↓wz_slB_ix_ix, ↓wz_slF_call, ↓wz_slT_call, ↓wz_slF_blt, ↓wz_slT_blt, ↓wz_lcn, ↓wz_lcc, ↓wz_forn, ↓wz_forc, consO_s, consO_n, forK_nx, forK_ct, forK_bk, forK_rt, c_isN, c_isnN, c_isT, c_isF, c_isnT, c_isnF, isNone_n, isNone_t, isNone_l, isNone_i, isNone_b, c_nel0, c_eql0, Bool.not_true, Bool.not_false, o_catL, o_catT, Nat.reduceLeDiff, ↓wz_mp, ↓wz_ms, layS_i, c_nes, c_eqs, b_gcd, isW_in h0 (show s ≤ 2 * 90 by omega), Bool.not_true, take_all, and_self]
theorem off_ev {n : Nat} (hn : 2 ≤ n) {sk ps : List (Int × Int)} (h : Seen sk ps) (t : Int) (M : Ms) : evFn fns WF n 13 [.d (skyD sk), .d (seenD ps), .d (.int t)] M = Rs.ok (.d (.int (offF sk ps t))) M := by
  obtain ⟨p, r, rfl⟩ := List.exists_cons_of_ne_nil h.ne
  exact off_at_ev hn (fun q hq => h.ok hq) t M
theorem told_steps_ev {n : Nat} (hn : 6 ≤ n) {sk ps : List (Int × Int)} (hs : Sky 24 sk) (h : Seen sk ps) {s : Int} (h0 : 0 ≤ s) (h1 : s ≤ 180) (M : Ms) :
    evFn fns WF n 15 [.d (skyD sk), .d (seenD ps), .d (.int s)] M = Rs.ok (.d (intD ((irange 0 360).filter fun t => decide (offF sk ps t ≤ s)))) M := by
  obtain ⟨n, rfl, hn'⟩ := lev hn
  rw [evF f_told_steps rfl rfl]
  simp only [f_told_steps]
  apply WP.to_eq
  simp only [↓WP_ok, ↓WPO_some, ↓WPB_t, ↓WPB_f, ↓WP_end, ↓pst_q, ↓pso_q, ↓pth_p, ↓WPO_map, ↓wz_var, ↓wz_int, ↓wz_bl, ↓wz_non, ↓wz_str, ↓wz_gi, ↓wz_bin, ↓wz_neg, ↓wz_cmp, ↓wz_cmp2, ↓wz_conj, ↓wz_disj, ↓wz_not, ↓wz_ite, ↓wz_tup, ↓wz_lst, ↓wz_ix, ↓wz_rev, ↓wz_nop, ↓wz_call, ↓wz_blt, ↓wz_isi, ↓wz_lc, ↓wz_lcO, ↓wz_rng, ↓wz_zip, ↓wz_lrg, ↓wz_sst, ↓wz_enm, ↓wz_get, ↓wz_get2, ↓wz_esn, ↓wz_esc, ↓wz_pn, ↓wz_pc, ↓wz_mv, ↓wz_ml, ↓wz_mk, ↓wz_mt, ↓wz_asg1, ↓wz_asgt, ↓wz_new, ↓wz_par, ↓wz_put, ↓wz_app, ↓wz_aug, ↓wz_ex, ↓wz_ifs, ↓wz_fors, ↓wz_forO, ↓wz_whl, ↓wz_ret, ↓wz_retL, ↓wz_ret0, ↓wz_brk, ↓wz_cont, ↓wz_pass, ↓wz_ssn, ↓wz_ssc, ↓wz_fb, ↓wz_lcb, negD_i, notD_b, revD_l, revD_t, isiD_d, layL_cup, layL_l, sA_nil, sA_cons, nxt_nx, nxt_rt, nxt_bk, nxt_ct, view_d, o_add, o_sub, c_lt, c_le, c_gt, c_ge, c_eqi, c_nei, ix_t0, ix_t1, ix_t2, ix_l0, ix_l1, ix_c0, ix_c1, put_c0, put_c1, b_int, b_abs, b_lenT, b_lenL, b_tupL, b_tupT, b_lstL, b_lstT, b_lstS, b_min2, b_max2, someD_d, lcM_its, lcM_l, lcM_t, forM_its, forM_l, forM_t, WP_bind, guardR_t, bt_nm, bt_tp, bts_nil, bts_cons, wipe_nil, wipe_cons, tT0, tT1, tT2, tT3, tT4, tT5, tT6, tT7, tT8, tT9, tT10, tT11, tT12, tL0, tL1, tL2, tL3, tL4, tL5, tL6, tL7, tL8, tL9, tL10, tL11, tL12, tL13, tL14, tL15, tL16, opt_map_some, opt_bind_some, finF_d, finF_nx, List.getD_cons_zero, List.getD_cons_succ, List.set_cons_zero, List.set_cons_succ, List.map_cons, List.map_nil, List.length_cons, List.length_nil, List.cons_append, List.nil_append, List.replicate_succ, List.replicate_zero, Nat.reduceAdd, Nat.reduceSub, Nat.sub_self, ↓wz_lc2, ↓wz_lc2b, ↓wz_slJ, slF_i, slT_i, slB_i, slD_t, slD_l, lc2M_its, lc2M_l, lc2M_t, innL_its, innL_l, innL_t, isD_map, ↓wz_slF_int, ↓wz_slT_int, ↓wz_slB_int_int, ↓wz_slB_int_neg, ↓wz_slB_int_var, ↓wz_slB_int_bin, ↓wz_slB_int_ix, ↓wz_slF_neg, ↓wz_slT_neg, ↓wz_slB_neg_int, ↓wz_slB_neg_neg, ↓wz_slB_neg_var, ↓wz_slB_neg_bin, ↓wz_slB_neg_ix, ↓wz_slF_var, ↓wz_slT_var, ↓wz_slB_var_int, ↓wz_slB_var_neg, ↓wz_slB_var_var, ↓wz_slB_var_bin, ↓wz_slB_var_ix, ↓wz_slF_bin, ↓wz_slT_bin, ↓wz_slB_bin_int, ↓wz_slB_bin_neg, ↓wz_slB_bin_var, ↓wz_slB_bin_bin, ↓wz_slB_bin_ix, ↓wz_slF_ix, ↓wz_slT_ix, ↓wz_slB_ix_int, ↓wz_slB_ix_neg, ↓wz_slB_ix_var, ↓wz_slB_ix_bin, ↓wz_slB_ix_ix, ↓wz_slF_call, ↓wz_slT_call, ↓wz_slF_blt, ↓wz_slT_blt, ↓wz_lcn, ↓wz_lcc, ↓wz_forn, ↓wz_forc, consO_s, consO_n, forK_nx, forK_ct, forK_bk, forK_rt, c_isN, c_isnN, c_isT, c_isF, c_isnT, c_isnF, isNone_n, isNone_t, isNone_l, isNone_i, isNone_b, c_nel0, c_eql0, Bool.not_true, Bool.not_false, o_catL, o_catT, Nat.reduceLeDiff, ↓wz_mp, ↓wz_ms, layS_i, c_nes, c_eqs, b_gcd]
  refine WP.eq (need_seen_ev (by omega) hs h M) ?_
  simp only [↓WP_ok, ↓WPO_some, ↓WPB_t, ↓WPB_f, ↓WP_end, ↓pst_q, ↓pso_q, ↓pth_p, ↓WPO_map, ↓wz_var, ↓wz_int, ↓wz_bl, ↓wz_non, ↓wz_str, ↓wz_gi, ↓wz_bin, ↓wz_neg, ↓wz_cmp, ↓wz_cmp2, ↓wz_conj, ↓wz_disj, ↓wz_not, ↓wz_ite, ↓wz_tup, ↓wz_lst, ↓wz_ix, ↓wz_rev, ↓wz_nop, ↓wz_call, ↓wz_blt, ↓wz_isi, ↓wz_lc, ↓wz_lcO, ↓wz_rng, ↓wz_zip, ↓wz_lrg, ↓wz_sst, ↓wz_enm, ↓wz_get, ↓wz_get2, ↓wz_esn, ↓wz_esc, ↓wz_pn, ↓wz_pc, ↓wz_mv, ↓wz_ml, ↓wz_mk, ↓wz_mt, ↓wz_asg1, ↓wz_asgt, ↓wz_new, ↓wz_par, ↓wz_put, ↓wz_app, ↓wz_aug, ↓wz_ex, ↓wz_ifs, ↓wz_fors, ↓wz_forO, ↓wz_whl, ↓wz_ret, ↓wz_retL, ↓wz_ret0, ↓wz_brk, ↓wz_cont, ↓wz_pass, ↓wz_ssn, ↓wz_ssc, ↓wz_fb, ↓wz_lcb, negD_i, notD_b, revD_l, revD_t, isiD_d, layL_cup, layL_l, sA_nil, sA_cons, nxt_nx, nxt_rt, nxt_bk, nxt_ct, view_d, o_add, o_sub, c_lt, c_le, c_gt, c_ge, c_eqi, c_nei, ix_t0, ix_t1, ix_t2, ix_l0, ix_l1, ix_c0, ix_c1, put_c0, put_c1, b_int, b_abs, b_lenT, b_lenL, b_tupL, b_tupT, b_lstL, b_lstT, b_lstS, b_min2, b_max2, someD_d, lcM_its, lcM_l, lcM_t, forM_its, forM_l, forM_t, WP_bind, guardR_t, bt_nm, bt_tp, bts_nil, bts_cons, wipe_nil, wipe_cons, tT0, tT1, tT2, tT3, tT4, tT5, tT6, tT7, tT8, tT9, tT10, tT11, tT12, tL0, tL1, tL2, tL3, tL4, tL5, tL6, tL7, tL8, tL9, tL10, tL11, tL12, tL13, tL14, tL15, tL16, opt_map_some, opt_bind_some, finF_d, finF_nx, List.getD_cons_zero, List.getD_cons_succ, List.set_cons_zero, List.set_cons_succ, List.map_cons, List.map_nil, List.length_cons, List.length_nil, List.cons_append, List.nil_append, List.replicate_succ, List.replicate_zero, Nat.reduceAdd, Nat.reduceSub, Nat.sub_self, ↓wz_lc2, ↓wz_lc2b, ↓wz_slJ, slF_i, slT_i, slB_i, slD_t, slD_l, lc2M_its, lc2M_l, lc2M_t, innL_its, innL_l, innL_t, isD_map, ↓wz_slF_int, ↓wz_slT_int, ↓wz_slB_int_int, ↓wz_slB_int_neg, ↓wz_slB_int_var, ↓wz_slB_int_bin, ↓wz_slB_int_ix, ↓wz_slF_neg, ↓wz_slT_neg, ↓wz_slB_neg_int, ↓wz_slB_neg_neg, ↓wz_slB_neg_var, ↓wz_slB_neg_bin, ↓wz_slB_neg_ix, ↓wz_slF_var, ↓wz_slT_var, ↓wz_slB_var_int, ↓wz_slB_var_neg, ↓wz_slB_var_var, ↓wz_slB_var_bin, ↓wz_slB_var_ix, ↓wz_slF_bin, ↓wz_slT_bin, ↓wz_slB_bin_int, ↓wz_slB_bin_neg, ↓wz_slB_bin_var, ↓wz_slB_bin_bin, ↓wz_slB_bin_ix, ↓wz_slF_ix, ↓wz_slT_ix, ↓wz_slB_ix_int, ↓wz_slB_ix_neg, ↓wz_slB_ix_var, ↓wz_slB_ix_bin, ↓wz_slB_ix_ix, ↓wz_slF_call, ↓wz_slT_call, ↓wz_slF_blt, ↓wz_slT_blt, ↓wz_lcn, ↓wz_lcc, ↓wz_forn, ↓wz_forc, consO_s, consO_n, forK_nx, forK_ct, forK_bk, forK_rt, c_isN, c_isnN, c_isT, c_isF, c_isnT, c_isnF, isNone_n, isNone_t, isNone_l, isNone_i, isNone_b, c_nel0, c_eql0, Bool.not_true, Bool.not_false, o_catL, o_catT, Nat.reduceLeDiff, ↓wz_mp, ↓wz_ms, layS_i, c_nes, c_eqs, b_gcd]
  refine WP.eq (need_slack_ev (by omega) h0 h1 M) ?_
  simp only [↓WP_ok, ↓WPO_some, ↓WPB_t, ↓WPB_f, ↓WP_end, ↓pst_q, ↓pso_q, ↓pth_p, ↓WPO_map, ↓wz_var, ↓wz_int, ↓wz_bl, ↓wz_non, ↓wz_str, ↓wz_gi, ↓wz_bin, ↓wz_neg, ↓wz_cmp, ↓wz_cmp2, ↓wz_conj, ↓wz_disj, ↓wz_not, ↓wz_ite, ↓wz_tup, ↓wz_lst, ↓wz_ix, ↓wz_rev, ↓wz_nop, ↓wz_call, ↓wz_blt, ↓wz_isi, ↓wz_lc, ↓wz_lcO, ↓wz_rng, ↓wz_zip, ↓wz_lrg, ↓wz_sst, ↓wz_enm, ↓wz_get, ↓wz_get2, ↓wz_esn, ↓wz_esc, ↓wz_pn, ↓wz_pc, ↓wz_mv, ↓wz_ml, ↓wz_mk, ↓wz_mt, ↓wz_asg1, ↓wz_asgt, ↓wz_new, ↓wz_par, ↓wz_put, ↓wz_app, ↓wz_aug, ↓wz_ex, ↓wz_ifs, ↓wz_fors, ↓wz_forO, ↓wz_whl, ↓wz_ret, ↓wz_retL, ↓wz_ret0, ↓wz_brk, ↓wz_cont, ↓wz_pass, ↓wz_ssn, ↓wz_ssc, ↓wz_fb, ↓wz_lcb, negD_i, notD_b, revD_l, revD_t, isiD_d, layL_cup, layL_l, sA_nil, sA_cons, nxt_nx, nxt_rt, nxt_bk, nxt_ct, view_d, o_add, o_sub, c_lt, c_le, c_gt, c_ge, c_eqi, c_nei, ix_t0, ix_t1, ix_t2, ix_l0, ix_l1, ix_c0, ix_c1, put_c0, put_c1, b_int, b_abs, b_lenT, b_lenL, b_tupL, b_tupT, b_lstL, b_lstT, b_lstS, b_min2, b_max2, someD_d, lcM_its, lcM_l, lcM_t, forM_its, forM_l, forM_t, WP_bind, guardR_t, bt_nm, bt_tp, bts_nil, bts_cons, wipe_nil, wipe_cons, tT0, tT1, tT2, tT3, tT4, tT5, tT6, tT7, tT8, tT9, tT10, tT11, tT12, tL0, tL1, tL2, tL3, tL4, tL5, tL6, tL7, tL8, tL9, tL10, tL11, tL12, tL13, tL14, tL15, tL16, opt_map_some, opt_bind_some, finF_d, finF_nx, List.getD_cons_zero, List.getD_cons_succ, List.set_cons_zero, List.set_cons_succ, List.map_cons, List.map_nil, List.length_cons, List.length_nil, List.cons_append, List.nil_append, List.replicate_succ, List.replicate_zero, Nat.reduceAdd, Nat.reduceSub, Nat.sub_self, ↓wz_lc2, ↓wz_lc2b, ↓wz_slJ, slF_i, slT_i, slB_i, slD_t, slD_l, lc2M_its, lc2M_l, lc2M_t, innL_its, innL_l, innL_t, isD_map, ↓wz_slF_int, ↓wz_slT_int, ↓wz_slB_int_int, ↓wz_slB_int_neg, ↓wz_slB_int_var, ↓wz_slB_int_bin, ↓wz_slB_int_ix, ↓wz_slF_neg, ↓wz_slT_neg, ↓wz_slB_neg_int, ↓wz_slB_neg_neg, ↓wz_slB_neg_var, ↓wz_slB_neg_bin, ↓wz_slB_neg_ix, ↓wz_slF_var, ↓wz_slT_var, ↓wz_slB_var_int, ↓wz_slB_var_neg, ↓wz_slB_var_var, ↓wz_slB_var_bin, ↓wz_slB_var_ix, ↓wz_slF_bin, ↓wz_slT_bin, ↓wz_slB_bin_int, ↓wz_slB_bin_neg, ↓wz_slB_bin_var, ↓wz_slB_bin_bin, ↓wz_slB_bin_ix, ↓wz_slF_ix, ↓wz_slT_ix, ↓wz_slB_ix_int, ↓wz_slB_ix_neg, ↓wz_slB_ix_var, ↓wz_slB_ix_bin, ↓wz_slB_ix_ix, ↓wz_slF_call, ↓wz_slT_call, ↓wz_slF_blt, ↓wz_slT_blt, ↓wz_lcn, ↓wz_lcc, ↓wz_forn, ↓wz_forc, consO_s, consO_n, forK_nx, forK_ct, forK_bk, forK_rt, c_isN, c_isnN, c_isT, c_isF, c_isnT, c_isnF, isNone_n, isNone_t, isNone_l, isNone_i, isNone_b, c_nel0, c_eql0, Bool.not_true, Bool.not_false, o_catL, o_catT, Nat.reduceLeDiff, ↓wz_mp, ↓wz_ms, layS_i, c_nes, c_eqs, b_gcd, rng_z (b := 360) _ (by decide) (by decide)]
  refine WP.lcZF (fun t => decide (offF sk ps t ≤ s)) .int (fun t ht' => ?_) ?_
  · simp only [↓WP_ok, ↓WPO_some, ↓WPB_t, ↓WPB_f, ↓WP_end, ↓pst_q, ↓pso_q, ↓pth_p, ↓WPO_map, ↓wz_var, ↓wz_int, ↓wz_bl, ↓wz_non, ↓wz_str, ↓wz_gi, ↓wz_bin, ↓wz_neg, ↓wz_cmp, ↓wz_cmp2, ↓wz_conj, ↓wz_disj, ↓wz_not, ↓wz_ite, ↓wz_tup, ↓wz_lst, ↓wz_ix, ↓wz_rev, ↓wz_nop, ↓wz_call, ↓wz_blt, ↓wz_isi, ↓wz_lc, ↓wz_lcO, ↓wz_rng, ↓wz_zip, ↓wz_lrg, ↓wz_sst, ↓wz_enm, ↓wz_get, ↓wz_get2, ↓wz_esn, ↓wz_esc, ↓wz_pn, ↓wz_pc, ↓wz_mv, ↓wz_ml, ↓wz_mk, ↓wz_mt, ↓wz_asg1, ↓wz_asgt, ↓wz_new, ↓wz_par, ↓wz_put, ↓wz_app, ↓wz_aug, ↓wz_ex, ↓wz_ifs, ↓wz_fors, ↓wz_forO, ↓wz_whl, ↓wz_ret, ↓wz_retL, ↓wz_ret0, ↓wz_brk, ↓wz_cont, ↓wz_pass, ↓wz_ssn, ↓wz_ssc, ↓wz_fb, ↓wz_lcb, negD_i, notD_b, revD_l, revD_t, isiD_d, layL_cup, layL_l, sA_nil, sA_cons, nxt_nx, nxt_rt, nxt_bk, nxt_ct, view_d, o_add, o_sub, c_lt, c_le, c_gt, c_ge, c_eqi, c_nei, ix_t0, ix_t1, ix_t2, ix_l0, ix_l1, ix_c0, ix_c1, put_c0, put_c1, b_int, b_abs, b_lenT, b_lenL, b_tupL, b_tupT, b_lstL, b_lstT, b_lstS, b_min2, b_max2, someD_d, lcM_its, lcM_l, lcM_t, forM_its, forM_l, forM_t, WP_bind, guardR_t, bt_nm, bt_tp, bts_nil, bts_cons, wipe_nil, wipe_cons, tT0, tT1, tT2, tT3, tT4, tT5, tT6, tT7, tT8, tT9, tT10, tT11, tT12, tL0, tL1, tL2, tL3, tL4, tL5, tL6, tL7, tL8, tL9, tL10, tL11, tL12, tL13, tL14, tL15, tL16, opt_map_some, opt_bind_some, finF_d, finF_nx, List.getD_cons_zero, List.getD_cons_succ, List.set_cons_zero, List.set_cons_succ, List.map_cons, List.map_nil, List.length_cons, List.length_nil, List.cons_append, List.nil_append, List.replicate_succ, List.replicate_zero, Nat.reduceAdd, Nat.reduceSub, Nat.sub_self, ↓wz_lc2, ↓wz_lc2b, ↓wz_slJ, slF_i, slT_i, slB_i, slD_t, slD_l, lc2M_its, lc2M_l, lc2M_t, innL_its, innL_l, innL_t, isD_map, ↓wz_slF_int, ↓wz_slT_int, ↓wz_slB_int_int, ↓wz_slB_int_neg, ↓wz_slB_int_var, ↓wz_slB_int_bin, ↓wz_slB_int_ix, ↓wz_slF_neg, ↓wz_slT_neg, ↓wz_slB_neg_int, ↓wz_slB_neg_neg, ↓wz_slB_neg_var, ↓wz_slB_neg_bin, ↓wz_slB_neg_ix, ↓wz_slF_var, ↓wz_slT_var, ↓wz_slB_var_int, ↓wz_slB_var_neg, ↓wz_slB_var_var, ↓wz_slB_var_bin, ↓wz_slB_var_ix, ↓wz_slF_bin, ↓wz_slT_bin, ↓wz_slB_bin_int, ↓wz_slB_bin_neg, ↓wz_slB_bin_var, ↓wz_slB_bin_bin, ↓wz_slB_bin_ix, ↓wz_slF_ix, ↓wz_slT_ix, ↓wz_slB_ix_int, ↓wz_slB_ix_neg, ↓wz_slB_ix_var, ↓wz_slB_ix_bin, ↓wz_slB_ix_ix, ↓wz_slF_call, ↓wz_slT_call, ↓wz_slF_blt, ↓wz_slT_blt, ↓wz_lcn, ↓wz_lcc, ↓wz_forn, ↓wz_forc, consO_s, consO_n, forK_nx, forK_ct, forK_bk, forK_rt, c_isN, c_isnN, c_isT, c_isF, c_isnT, c_isnF, isNone_n, isNone_t, isNone_l, isNone_i, isNone_b, c_nel0, c_eql0, Bool.not_true, Bool.not_false, o_catL, o_catT, Nat.reduceLeDiff, ↓wz_mp, ↓wz_ms, layS_i, c_nes, c_eqs, b_gcd]
    refine WP.eq (off_ev (by omega) h t M) ?_
    simp only [↓WP_ok, ↓WPO_some, ↓WPB_t, ↓WPB_f, ↓WP_end, ↓pst_q, ↓pso_q, ↓pth_p, ↓WPO_map, ↓wz_var, ↓wz_int, ↓wz_bl, ↓wz_non, ↓wz_str, ↓wz_gi, ↓wz_bin, ↓wz_neg, ↓wz_cmp, ↓wz_cmp2, ↓wz_conj, ↓wz_disj, ↓wz_not, ↓wz_ite, ↓wz_tup, ↓wz_lst, ↓wz_ix, ↓wz_rev, ↓wz_nop, ↓wz_call, ↓wz_blt, ↓wz_isi, ↓wz_lc, ↓wz_lcO, ↓wz_rng, ↓wz_zip, ↓wz_lrg, ↓wz_sst, ↓wz_enm, ↓wz_get, ↓wz_get2, ↓wz_esn, ↓wz_esc, ↓wz_pn, ↓wz_pc, ↓wz_mv, ↓wz_ml, ↓wz_mk, ↓wz_mt, ↓wz_asg1, ↓wz_asgt, ↓wz_new, ↓wz_par, ↓wz_put, ↓wz_app, ↓wz_aug, ↓wz_ex, ↓wz_ifs, ↓wz_fors, ↓wz_forO, ↓wz_whl, ↓wz_ret, ↓wz_retL, ↓wz_ret0, ↓wz_brk, ↓wz_cont, ↓wz_pass, ↓wz_ssn, ↓wz_ssc, ↓wz_fb, ↓wz_lcb, negD_i, notD_b, revD_l, revD_t, isiD_d, layL_cup, layL_l, sA_nil, sA_cons, nxt_nx, nxt_rt, nxt_bk, nxt_ct, view_d, o_add, o_sub, c_lt, c_le, c_gt, c_ge, c_eqi, c_nei, ix_t0, ix_t1, ix_t2, ix_l0, ix_l1, ix_c0, ix_c1, put_c0, put_c1, b_int, b_abs, b_lenT, b_lenL, b_tupL, b_tupT, b_lstL, b_lstT, b_lstS, b_min2, b_max2, someD_d, lcM_its, lcM_l, lcM_t, forM_its, forM_l, forM_t, WP_bind, guardR_t, bt_nm, bt_tp, bts_nil, bts_cons, wipe_nil, wipe_cons, tT0, tT1, tT2, tT3, tT4, tT5, tT6, tT7, tT8, tT9, tT10, tT11, tT12, tL0, tL1, tL2, tL3, tL4, tL5, tL6, tL7, tL8, tL9, tL10, tL11, tL12, tL13, tL14, tL15, tL16, opt_map_some, opt_bind_some, finF_d, finF_nx, List.getD_cons_zero, List.getD_cons_succ, List.set_cons_zero, List.set_cons_succ, List.map_cons, List.map_nil, List.length_cons, List.length_nil, List.cons_append, List.nil_append, List.replicate_succ, List.replicate_zero, Nat.reduceAdd, Nat.reduceSub, Nat.sub_self, ↓wz_lc2, ↓wz_lc2b, ↓wz_slJ, slF_i, slT_i, slB_i, slD_t, slD_l, lc2M_its, lc2M_l, lc2M_t, innL_its, innL_l, innL_t, isD_map, ↓wz_slF_int, ↓wz_slT_int, ↓wz_slB_int_int, ↓wz_slB_int_neg, ↓wz_slB_int_var, ↓wz_slB_int_bin, ↓wz_slB_int_ix, ↓wz_slF_neg, ↓wz_slT_neg, ↓wz_slB_neg_int, ↓wz_slB_neg_neg, ↓wz_slB_neg_var, ↓wz_slB_neg_bin, ↓wz_slB_neg_ix, ↓wz_slF_var, ↓wz_slT_var, ↓wz_slB_var_int, ↓wz_slB_var_neg, ↓wz_slB_var_var, ↓wz_slB_var_bin, ↓wz_slB_var_ix, ↓wz_slF_bin, ↓wz_slT_bin, ↓wz_slB_bin_int, ↓wz_slB_bin_neg, ↓wz_slB_bin_var, ↓wz_slB_bin_bin, ↓wz_slB_bin_ix, ↓wz_slF_ix, ↓wz_slT_ix, ↓wz_slB_ix_int, ↓wz_slB_ix_neg, ↓wz_slB_ix_var, ↓wz_slB_ix_bin, ↓wz_slB_ix_ix, ↓wz_slF_call, ↓wz_slT_call, ↓wz_slF_blt, ↓wz_slT_blt, ↓wz_lcn, ↓wz_lcc, ↓wz_forn, ↓wz_forc, consO_s, consO_n, forK_nx, forK_ct, forK_bk, forK_rt, c_isN, c_isnN, c_isT, c_isF, c_isnT, c_isnF, isNone_n, isNone_t, isNone_l, isNone_i, isNone_b, c_nel0, c_eql0, Bool.not_true, Bool.not_false, o_catL, o_catT, Nat.reduceLeDiff, ↓wz_mp, ↓wz_ms, layS_i, c_nes, c_eqs, b_gcd]
    refine WPB.if (fun h => ?_) (fun h => ?_)
    · simp only [↓WP_ok, ↓WPO_some, ↓WPB_t, ↓WPB_f, ↓WP_end, ↓pst_q, ↓pso_q, ↓pth_p, ↓WPO_map, ↓wz_var, ↓wz_int, ↓wz_bl, ↓wz_non, ↓wz_str, ↓wz_gi, ↓wz_bin, ↓wz_neg, ↓wz_cmp, ↓wz_cmp2, ↓wz_conj, ↓wz_disj, ↓wz_not, ↓wz_ite, ↓wz_tup, ↓wz_lst, ↓wz_ix, ↓wz_rev, ↓wz_nop, ↓wz_call, ↓wz_blt, ↓wz_isi, ↓wz_lc, ↓wz_lcO, ↓wz_rng, ↓wz_zip, ↓wz_lrg, ↓wz_sst, ↓wz_enm, ↓wz_get, ↓wz_get2, ↓wz_esn, ↓wz_esc, ↓wz_pn, ↓wz_pc, ↓wz_mv, ↓wz_ml, ↓wz_mk, ↓wz_mt, ↓wz_asg1, ↓wz_asgt, ↓wz_new, ↓wz_par, ↓wz_put, ↓wz_app, ↓wz_aug, ↓wz_ex, ↓wz_ifs, ↓wz_fors, ↓wz_forO, ↓wz_whl, ↓wz_ret, ↓wz_retL, ↓wz_ret0, ↓wz_brk, ↓wz_cont, ↓wz_pass, ↓wz_ssn, ↓wz_ssc, ↓wz_fb, ↓wz_lcb, negD_i, notD_b, revD_l, revD_t, isiD_d, layL_cup, layL_l, sA_nil, sA_cons, nxt_nx, nxt_rt, nxt_bk, nxt_ct, view_d, o_add, o_sub, c_lt, c_le, c_gt, c_ge, c_eqi, c_nei, ix_t0, ix_t1, ix_t2, ix_l0, ix_l1, ix_c0, ix_c1, put_c0, put_c1, b_int, b_abs, b_lenT, b_lenL, b_tupL, b_tupT, b_lstL, b_lstT, b_lstS, b_min2, b_max2, someD_d, lcM_its, lcM_l, lcM_t, forM_its, forM_l, forM_t, WP_bind, guardR_t, bt_nm, bt_tp, bts_nil, bts_cons, wipe_nil, wipe_cons, tT0, tT1, tT2, tT3, tT4, tT5, tT6, tT7, tT8, tT9, tT10, tT11, tT12, tL0, tL1, tL2, tL3, tL4, tL5, tL6, tL7, tL8, tL9, tL10, tL11, tL12, tL13, tL14, tL15, tL16, opt_map_some, opt_bind_some, finF_d, finF_nx, List.getD_cons_zero, List.getD_cons_succ, List.set_cons_zero, List.set_cons_succ, List.map_cons, List.map_nil, List.length_cons, List.length_nil, List.cons_append, List.nil_append, List.replicate_succ, List.replicate_zero, Nat.reduceAdd, Nat.reduceSub, Nat.sub_self, ↓wz_lc2, ↓wz_lc2b, ↓wz_slJ, slF_i, slT_i, slB_i, slD_t, slD_l, lc2M_its, lc2M_l, lc2M_t, innL_its, innL_l, innL_t, isD_map, ↓wz_slF_int, ↓wz_slT_int, ↓wz_slB_int_int, ↓wz_slB_int_neg, ↓wz_slB_int_var, ↓wz_slB_int_bin, ↓wz_slB_int_ix, ↓wz_slF_neg, ↓wz_slT_neg, ↓wz_slB_neg_int, ↓wz_slB_neg_neg, ↓wz_slB_neg_var, ↓wz_slB_neg_bin, ↓wz_slB_neg_ix, ↓wz_slF_var, ↓wz_slT_var, ↓wz_slB_var_int, ↓wz_slB_var_neg, ↓wz_slB_var_var, ↓wz_slB_var_bin, ↓wz_slB_var_ix, ↓wz_slF_bin, ↓wz_slT_bin, ↓wz_slB_bin_int, ↓wz_slB_bin_neg, ↓wz_slB_bin_var, ↓wz_slB_bin_bin, ↓wz_slB_bin_ix, ↓wz_slF_ix, ↓wz_slT_ix, ↓wz_slB_ix_int, ↓wz_slB_ix_neg, ↓wz_slB_ix_var, ↓wz_slB_ix_bin, ↓wz_slB_ix_ix, ↓wz_slF_call, ↓wz_slT_call, ↓wz_slF_blt, ↓wz_slT_blt, ↓wz_lcn, ↓wz_lcc, ↓wz_forn, ↓wz_forc, consO_s, consO_n, forK_nx, forK_ct, forK_bk, forK_rt, c_isN, c_isnN, c_isT, c_isF, c_isnT, c_isnF, isNone_n, isNone_t, isNone_l, isNone_i, isNone_b, c_nel0, c_eql0, Bool.not_true, Bool.not_false, o_catL, o_catT, Nat.reduceLeDiff, ↓wz_mp, ↓wz_ms, layS_i, c_nes, c_eqs, b_gcd, h, if_true, and_self]
    · simp only [↓WP_ok, ↓WPO_some, ↓WPB_t, ↓WPB_f, ↓WP_end, ↓pst_q, ↓pso_q, ↓pth_p, ↓WPO_map, ↓wz_var, ↓wz_int, ↓wz_bl, ↓wz_non, ↓wz_str, ↓wz_gi, ↓wz_bin, ↓wz_neg, ↓wz_cmp, ↓wz_cmp2, ↓wz_conj, ↓wz_disj, ↓wz_not, ↓wz_ite, ↓wz_tup, ↓wz_lst, ↓wz_ix, ↓wz_rev, ↓wz_nop, ↓wz_call, ↓wz_blt, ↓wz_isi, ↓wz_lc, ↓wz_lcO, ↓wz_rng, ↓wz_zip, ↓wz_lrg, ↓wz_sst, ↓wz_enm, ↓wz_get, ↓wz_get2, ↓wz_esn, ↓wz_esc, ↓wz_pn, ↓wz_pc, ↓wz_mv, ↓wz_ml, ↓wz_mk, ↓wz_mt, ↓wz_asg1, ↓wz_asgt, ↓wz_new, ↓wz_par, ↓wz_put, ↓wz_app, ↓wz_aug, ↓wz_ex, ↓wz_ifs, ↓wz_fors, ↓wz_forO, ↓wz_whl, ↓wz_ret, ↓wz_retL, ↓wz_ret0, ↓wz_brk, ↓wz_cont, ↓wz_pass, ↓wz_ssn, ↓wz_ssc, ↓wz_fb, ↓wz_lcb, negD_i, notD_b, revD_l, revD_t, isiD_d, layL_cup, layL_l, sA_nil, sA_cons, nxt_nx, nxt_rt, nxt_bk, nxt_ct, view_d, o_add, o_sub, c_lt, c_le, c_gt, c_ge, c_eqi, c_nei, ix_t0, ix_t1, ix_t2, ix_l0, ix_l1, ix_c0, ix_c1, put_c0, put_c1, b_int, b_abs, b_lenT, b_lenL, b_tupL, b_tupT, b_lstL, b_lstT, b_lstS, b_min2, b_max2, someD_d, lcM_its, lcM_l, lcM_t, forM_its, forM_l, forM_t, WP_bind, guardR_t, bt_nm, bt_tp, bts_nil, bts_cons, wipe_nil, wipe_cons, tT0, tT1, tT2, tT3, tT4, tT5, tT6, tT7, tT8, tT9, tT10, tT11, tT12, tL0, tL1, tL2, tL3, tL4, tL5, tL6, tL7, tL8, tL9, tL10, tL11, tL12, tL13, tL14, tL15, tL16, opt_map_some, opt_bind_some, finF_d, finF_nx, List.getD_cons_zero, List.getD_cons_succ, List.set_cons_zero, List.set_cons_succ, List.map_cons, List.map_nil, List.length_cons, List.length_nil, List.cons_append, List.nil_append, List.replicate_succ, List.replicate_zero, Nat.reduceAdd, Nat.reduceSub, Nat.sub_self, ↓wz_lc2, ↓wz_lc2b, ↓wz_slJ, slF_i, slT_i, slB_i, slD_t, slD_l, lc2M_its, lc2M_l, lc2M_t, innL_its, innL_l, innL_t, isD_map, ↓wz_slF_int, ↓wz_slT_int, ↓wz_slB_int_int, ↓wz_slB_int_neg, ↓wz_slB_int_var, ↓wz_slB_int_bin, ↓wz_slB_int_ix, ↓wz_slF_neg, ↓wz_slT_neg, ↓wz_slB_neg_int, ↓wz_slB_neg_neg, ↓wz_slB_neg_var, ↓wz_slB_neg_bin, ↓wz_slB_neg_ix, ↓wz_slF_var, ↓wz_slT_var, ↓wz_slB_var_int, ↓wz_slB_var_neg, ↓wz_slB_var_var, ↓wz_slB_var_bin, ↓wz_slB_var_ix, ↓wz_slF_bin, ↓wz_slT_bin, ↓wz_slB_bin_int, ↓wz_slB_bin_neg, ↓wz_slB_bin_var, ↓wz_slB_bin_bin, ↓wz_slB_bin_ix, ↓wz_slF_ix, ↓wz_slT_ix, ↓wz_slB_ix_int, ↓wz_slB_ix_neg, ↓wz_slB_ix_var, ↓wz_slB_ix_bin, ↓wz_slB_ix_ix, ↓wz_slF_call, ↓wz_slT_call, ↓wz_slF_blt, ↓wz_slT_blt, ↓wz_lcn, ↓wz_lcc, ↓wz_forn, ↓wz_forc, consO_s, consO_n, forK_nx, forK_ct, forK_bk, forK_rt, c_isN, c_isnN, c_isT, c_isF, c_isnT, c_isnF, isNone_n, isNone_t, isNone_l, isNone_i, isNone_b, c_nel0, c_eql0, Bool.not_true, Bool.not_false, o_catL, o_catT, Nat.reduceLeDiff, ↓wz_mp, ↓wz_ms, layS_i, c_nes, c_eqs, b_gcd, h, Bool.false_eq_true, if_false, and_self]
  · simp only [↓WP_ok, ↓WPO_some, ↓WPB_t, ↓WPB_f, ↓WP_end, ↓pst_q, ↓pso_q, ↓pth_p, ↓WPO_map, ↓wz_var, ↓wz_int, ↓wz_bl, ↓wz_non, ↓wz_str, ↓wz_gi, ↓wz_bin, ↓wz_neg, ↓wz_cmp, ↓wz_cmp2, ↓wz_conj, ↓wz_disj, ↓wz_not, ↓wz_ite, ↓wz_tup, ↓wz_lst, ↓wz_ix, ↓wz_rev, ↓wz_nop, ↓wz_call, ↓wz_blt, ↓wz_isi, ↓wz_lc, ↓wz_lcO, ↓wz_rng, ↓wz_zip, ↓wz_lrg, ↓wz_sst, ↓wz_enm, ↓wz_get, ↓wz_get2, ↓wz_esn, ↓wz_esc, ↓wz_pn, ↓wz_pc, ↓wz_mv, ↓wz_ml, ↓wz_mk, ↓wz_mt, ↓wz_asg1, ↓wz_asgt, ↓wz_new, ↓wz_par, ↓wz_put, ↓wz_app, ↓wz_aug, ↓wz_ex, ↓wz_ifs, ↓wz_fors, ↓wz_forO, ↓wz_whl, ↓wz_ret, ↓wz_retL, ↓wz_ret0, ↓wz_brk, ↓wz_cont, ↓wz_pass, ↓wz_ssn, ↓wz_ssc, ↓wz_fb, ↓wz_lcb, negD_i, notD_b, revD_l, revD_t, isiD_d, layL_cup, layL_l, sA_nil, sA_cons, nxt_nx, nxt_rt, nxt_bk, nxt_ct, view_d, o_add, o_sub, c_lt, c_le, c_gt, c_ge, c_eqi, c_nei, ix_t0, ix_t1, ix_t2, ix_l0, ix_l1, ix_c0, ix_c1, put_c0, put_c1, b_int, b_abs, b_lenT, b_lenL, b_tupL, b_tupT, b_lstL, b_lstT, b_lstS, b_min2, b_max2, someD_d, lcM_its, lcM_l, lcM_t, forM_its, forM_l, forM_t, WP_bind, guardR_t, bt_nm, bt_tp, bts_nil, bts_cons, wipe_nil, wipe_cons, tT0, tT1, tT2, tT3, tT4, tT5, tT6, tT7, tT8, tT9, tT10, tT11, tT12, tL0, tL1, tL2, tL3, tL4, tL5, tL6, tL7, tL8, tL9, tL10, tL11, tL12, tL13, tL14, tL15, tL16, opt_map_some, opt_bind_some, finF_d, finF_nx, List.getD_cons_zero, List.getD_cons_succ, List.set_cons_zero, List.set_cons_succ, List.map_cons, List.map_nil, List.length_cons, List.length_nil, List.cons_append, List.nil_append, List.replicate_succ, List.replicate_zero, Nat.reduceAdd, Nat.reduceSub, Nat.sub_self, ↓wz_lc2, ↓wz_lc2b, ↓wz_slJ, slF_i, slT_i, slB_i, slD_t, slD_l, lc2M_its, lc2M_l, lc2M_t, innL_its, innL_l, innL_t, isD_map, ↓wz_slF_int, ↓wz_slT_int, ↓wz_slB_int_int, ↓wz_slB_int_neg, ↓wz_slB_int_var, ↓wz_slB_int_bin, ↓wz_slB_int_ix, ↓wz_slF_neg, ↓wz_slT_neg, ↓wz_slB_neg_int, ↓wz_slB_neg_neg, ↓wz_slB_neg_var, ↓wz_slB_neg_bin, ↓wz_slB_neg_ix, ↓wz_slF_var, ↓wz_slT_var, ↓wz_slB_var_int, ↓wz_slB_var_neg, ↓wz_slB_var_var, ↓wz_slB_var_bin, ↓wz_slB_var_ix, ↓wz_slF_bin, ↓wz_slT_bin, ↓wz_slB_bin_int, ↓wz_slB_bin_neg, ↓wz_slB_bin_var, ↓wz_slB_bin_bin, ↓wz_slB_bin_ix, ↓wz_slF_ix, ↓wz_slT_ix, ↓wz_slB_ix_int, ↓wz_slB_ix_neg, ↓wz_slB_ix_var, ↓wz_slB_ix_bin, ↓wz_slB_ix_ix, ↓wz_slF_call, ↓wz_slT_call, ↓wz_slF_blt, ↓wz_slT_blt, ↓wz_lcn, ↓wz_lcc, ↓wz_forn, ↓wz_forc, consO_s, consO_n, forK_nx, forK_ct, forK_bk, forK_rt, c_isN, c_isnN, c_isT, c_isF, c_isnT, c_isnF, isNone_n, isNone_t, isNone_l, isNone_i, isNone_b, c_nel0, c_eql0, Bool.not_true, Bool.not_false, o_catL, o_catT, Nat.reduceLeDiff, ↓wz_mp, ↓wz_ms, layS_i, c_nes, c_eqs, b_gcd, take_all, and_true]
    rfl
def bestF (f : Int → Int) : Int × Int := minOf (f 0, 0) ((irange 1 360).map fun t => (f t, t))
theorem best_step_ev {n : Nat} (hn : 6 ≤ n) {sk ps : List (Int × Int)} (hs : Sky 24 sk) (h : Seen sk ps) (M : Ms) :
    evFn fns WF n 16 [.d (skyD sk), .d (seenD ps)] M = Rs.ok (.d (.tuple [.int (bestF (offF sk ps)).1, .int (bestF (offF sk ps)).2])) M := by
  obtain ⟨n, rfl, hn'⟩ := lev hn
  rw [evF f_best_step rfl rfl]
  simp only [f_best_step]
  apply WP.to_eq
  simp only [↓WP_ok, ↓WPO_some, ↓WPB_t, ↓WPB_f, ↓WP_end, ↓pst_q, ↓pso_q, ↓pth_p, ↓WPO_map, ↓wz_var, ↓wz_int, ↓wz_bl, ↓wz_non, ↓wz_str, ↓wz_gi, ↓wz_bin, ↓wz_neg, ↓wz_cmp, ↓wz_cmp2, ↓wz_conj, ↓wz_disj, ↓wz_not, ↓wz_ite, ↓wz_tup, ↓wz_lst, ↓wz_ix, ↓wz_rev, ↓wz_nop, ↓wz_call, ↓wz_blt, ↓wz_isi, ↓wz_lc, ↓wz_lcO, ↓wz_rng, ↓wz_zip, ↓wz_lrg, ↓wz_sst, ↓wz_enm, ↓wz_get, ↓wz_get2, ↓wz_esn, ↓wz_esc, ↓wz_pn, ↓wz_pc, ↓wz_mv, ↓wz_ml, ↓wz_mk, ↓wz_mt, ↓wz_asg1, ↓wz_asgt, ↓wz_new, ↓wz_par, ↓wz_put, ↓wz_app, ↓wz_aug, ↓wz_ex, ↓wz_ifs, ↓wz_fors, ↓wz_forO, ↓wz_whl, ↓wz_ret, ↓wz_retL, ↓wz_ret0, ↓wz_brk, ↓wz_cont, ↓wz_pass, ↓wz_ssn, ↓wz_ssc, ↓wz_fb, ↓wz_lcb, negD_i, notD_b, revD_l, revD_t, isiD_d, layL_cup, layL_l, sA_nil, sA_cons, nxt_nx, nxt_rt, nxt_bk, nxt_ct, view_d, o_add, o_sub, c_lt, c_le, c_gt, c_ge, c_eqi, c_nei, ix_t0, ix_t1, ix_t2, ix_l0, ix_l1, ix_c0, ix_c1, put_c0, put_c1, b_int, b_abs, b_lenT, b_lenL, b_tupL, b_tupT, b_lstL, b_lstT, b_lstS, b_min2, b_max2, someD_d, lcM_its, lcM_l, lcM_t, forM_its, forM_l, forM_t, WP_bind, guardR_t, bt_nm, bt_tp, bts_nil, bts_cons, wipe_nil, wipe_cons, tT0, tT1, tT2, tT3, tT4, tT5, tT6, tT7, tT8, tT9, tT10, tT11, tT12, tL0, tL1, tL2, tL3, tL4, tL5, tL6, tL7, tL8, tL9, tL10, tL11, tL12, tL13, tL14, tL15, tL16, opt_map_some, opt_bind_some, finF_d, finF_nx, List.getD_cons_zero, List.getD_cons_succ, List.set_cons_zero, List.set_cons_succ, List.map_cons, List.map_nil, List.length_cons, List.length_nil, List.cons_append, List.nil_append, List.replicate_succ, List.replicate_zero, Nat.reduceAdd, Nat.reduceSub, Nat.sub_self, ↓wz_lc2, ↓wz_lc2b, ↓wz_slJ, slF_i, slT_i, slB_i, slD_t, slD_l, lc2M_its, lc2M_l, lc2M_t, innL_its, innL_l, innL_t, isD_map, ↓wz_slF_int, ↓wz_slT_int, ↓wz_slB_int_int, ↓wz_slB_int_neg, ↓wz_slB_int_var, ↓wz_slB_int_bin, ↓wz_slB_int_ix, ↓wz_slF_neg, ↓wz_slT_neg, ↓wz_slB_neg_int, ↓wz_slB_neg_neg, ↓wz_slB_neg_var, ↓wz_slB_neg_bin, ↓wz_slB_neg_ix, ↓wz_slF_var, ↓wz_slT_var, ↓wz_slB_var_int, ↓wz_slB_var_neg, ↓wz_slB_var_var, ↓wz_slB_var_bin, ↓wz_slB_var_ix, ↓wz_slF_bin, ↓wz_slT_bin, ↓wz_slB_bin_int, ↓wz_slB_bin_neg, ↓wz_slB_bin_var, ↓wz_slB_bin_bin, ↓wz_slB_bin_ix, ↓wz_slF_ix, ↓wz_slT_ix, ↓wz_slB_ix_int, ↓wz_slB_ix_neg, ↓wz_slB_ix_var, ↓wz_slB_ix_bin, ↓wz_slB_ix_ix, ↓wz_slF_call, ↓wz_slT_call, ↓wz_slF_blt, ↓wz_slT_blt, ↓wz_lcn, ↓wz_lcc, ↓wz_forn, ↓wz_forc, consO_s, consO_n, forK_nx, forK_ct, forK_bk, forK_rt, c_isN, c_isnN, c_isT, c_isF, c_isnT, c_isnF, isNone_n, isNone_t, isNone_l, isNone_i, isNone_b, c_nel0, c_eql0, Bool.not_true, Bool.not_false, o_catL, o_catT, Nat.reduceLeDiff, ↓wz_mp, ↓wz_ms, layS_i, c_nes, c_eqs, b_gcd]
  refine WP.eq (need_seen_ev (by omega) hs h M) ?_
  simp only [↓WP_ok, ↓WPO_some, ↓WPB_t, ↓WPB_f, ↓WP_end, ↓pst_q, ↓pso_q, ↓pth_p, ↓WPO_map, ↓wz_var, ↓wz_int, ↓wz_bl, ↓wz_non, ↓wz_str, ↓wz_gi, ↓wz_bin, ↓wz_neg, ↓wz_cmp, ↓wz_cmp2, ↓wz_conj, ↓wz_disj, ↓wz_not, ↓wz_ite, ↓wz_tup, ↓wz_lst, ↓wz_ix, ↓wz_rev, ↓wz_nop, ↓wz_call, ↓wz_blt, ↓wz_isi, ↓wz_lc, ↓wz_lcO, ↓wz_rng, ↓wz_zip, ↓wz_lrg, ↓wz_sst, ↓wz_enm, ↓wz_get, ↓wz_get2, ↓wz_esn, ↓wz_esc, ↓wz_pn, ↓wz_pc, ↓wz_mv, ↓wz_ml, ↓wz_mk, ↓wz_mt, ↓wz_asg1, ↓wz_asgt, ↓wz_new, ↓wz_par, ↓wz_put, ↓wz_app, ↓wz_aug, ↓wz_ex, ↓wz_ifs, ↓wz_fors, ↓wz_forO, ↓wz_whl, ↓wz_ret, ↓wz_retL, ↓wz_ret0, ↓wz_brk, ↓wz_cont, ↓wz_pass, ↓wz_ssn, ↓wz_ssc, ↓wz_fb, ↓wz_lcb, negD_i, notD_b, revD_l, revD_t, isiD_d, layL_cup, layL_l, sA_nil, sA_cons, nxt_nx, nxt_rt, nxt_bk, nxt_ct, view_d, o_add, o_sub, c_lt, c_le, c_gt, c_ge, c_eqi, c_nei, ix_t0, ix_t1, ix_t2, ix_l0, ix_l1, ix_c0, ix_c1, put_c0, put_c1, b_int, b_abs, b_lenT, b_lenL, b_tupL, b_tupT, b_lstL, b_lstT, b_lstS, b_min2, b_max2, someD_d, lcM_its, lcM_l, lcM_t, forM_its, forM_l, forM_t, WP_bind, guardR_t, bt_nm, bt_tp, bts_nil, bts_cons, wipe_nil, wipe_cons, tT0, tT1, tT2, tT3, tT4, tT5, tT6, tT7, tT8, tT9, tT10, tT11, tT12, tL0, tL1, tL2, tL3, tL4, tL5, tL6, tL7, tL8, tL9, tL10, tL11, tL12, tL13, tL14, tL15, tL16, opt_map_some, opt_bind_some, finF_d, finF_nx, List.getD_cons_zero, List.getD_cons_succ, List.set_cons_zero, List.set_cons_succ, List.map_cons, List.map_nil, List.length_cons, List.length_nil, List.cons_append, List.nil_append, List.replicate_succ, List.replicate_zero, Nat.reduceAdd, Nat.reduceSub, Nat.sub_self, ↓wz_lc2, ↓wz_lc2b, ↓wz_slJ, slF_i, slT_i, slB_i, slD_t, slD_l, lc2M_its, lc2M_l, lc2M_t, innL_its, innL_l, innL_t, isD_map, ↓wz_slF_int, ↓wz_slT_int, ↓wz_slB_int_int, ↓wz_slB_int_neg, ↓wz_slB_int_var, ↓wz_slB_int_bin, ↓wz_slB_int_ix, ↓wz_slF_neg, ↓wz_slT_neg, ↓wz_slB_neg_int, ↓wz_slB_neg_neg, ↓wz_slB_neg_var, ↓wz_slB_neg_bin, ↓wz_slB_neg_ix, ↓wz_slF_var, ↓wz_slT_var, ↓wz_slB_var_int, ↓wz_slB_var_neg, ↓wz_slB_var_var, ↓wz_slB_var_bin, ↓wz_slB_var_ix, ↓wz_slF_bin, ↓wz_slT_bin, ↓wz_slB_bin_int, ↓wz_slB_bin_neg, ↓wz_slB_bin_var, ↓wz_slB_bin_bin, ↓wz_slB_bin_ix, ↓wz_slF_ix, ↓wz_slT_ix, ↓wz_slB_ix_int, ↓wz_slB_ix_neg, ↓wz_slB_ix_var, ↓wz_slB_ix_bin, ↓wz_slB_ix_ix, ↓wz_slF_call, ↓wz_slT_call, ↓wz_slF_blt, ↓wz_slT_blt, ↓wz_lcn, ↓wz_lcc, ↓wz_forn, ↓wz_forc, consO_s, consO_n, forK_nx, forK_ct, forK_bk, forK_rt, c_isN, c_isnN, c_isT, c_isF, c_isnT, c_isnF, isNone_n, isNone_t, isNone_l, isNone_i, isNone_b, c_nel0, c_eql0, Bool.not_true, Bool.not_false, o_catL, o_catT, Nat.reduceLeDiff, ↓wz_mp, ↓wz_ms, layS_i, c_nes, c_eqs, b_gcd, rng_z (b := 360) _ (by decide) (by decide)]
  refine WP.lcZ (fun t => .tuple [.int (offF sk ps t), .int t]) (fun t ht' => ?_) ?_
  · simp only [↓WP_ok, ↓WPO_some, ↓WPB_t, ↓WPB_f, ↓WP_end, ↓pst_q, ↓pso_q, ↓pth_p, ↓WPO_map, ↓wz_var, ↓wz_int, ↓wz_bl, ↓wz_non, ↓wz_str, ↓wz_gi, ↓wz_bin, ↓wz_neg, ↓wz_cmp, ↓wz_cmp2, ↓wz_conj, ↓wz_disj, ↓wz_not, ↓wz_ite, ↓wz_tup, ↓wz_lst, ↓wz_ix, ↓wz_rev, ↓wz_nop, ↓wz_call, ↓wz_blt, ↓wz_isi, ↓wz_lc, ↓wz_lcO, ↓wz_rng, ↓wz_zip, ↓wz_lrg, ↓wz_sst, ↓wz_enm, ↓wz_get, ↓wz_get2, ↓wz_esn, ↓wz_esc, ↓wz_pn, ↓wz_pc, ↓wz_mv, ↓wz_ml, ↓wz_mk, ↓wz_mt, ↓wz_asg1, ↓wz_asgt, ↓wz_new, ↓wz_par, ↓wz_put, ↓wz_app, ↓wz_aug, ↓wz_ex, ↓wz_ifs, ↓wz_fors, ↓wz_forO, ↓wz_whl, ↓wz_ret, ↓wz_retL, ↓wz_ret0, ↓wz_brk, ↓wz_cont, ↓wz_pass, ↓wz_ssn, ↓wz_ssc, ↓wz_fb, ↓wz_lcb, negD_i, notD_b, revD_l, revD_t, isiD_d, layL_cup, layL_l, sA_nil, sA_cons, nxt_nx, nxt_rt, nxt_bk, nxt_ct, view_d, o_add, o_sub, c_lt, c_le, c_gt, c_ge, c_eqi, c_nei, ix_t0, ix_t1, ix_t2, ix_l0, ix_l1, ix_c0, ix_c1, put_c0, put_c1, b_int, b_abs, b_lenT, b_lenL, b_tupL, b_tupT, b_lstL, b_lstT, b_lstS, b_min2, b_max2, someD_d, lcM_its, lcM_l, lcM_t, forM_its, forM_l, forM_t, WP_bind, guardR_t, bt_nm, bt_tp, bts_nil, bts_cons, wipe_nil, wipe_cons, tT0, tT1, tT2, tT3, tT4, tT5, tT6, tT7, tT8, tT9, tT10, tT11, tT12, tL0, tL1, tL2, tL3, tL4, tL5, tL6, tL7, tL8, tL9, tL10, tL11, tL12, tL13, tL14, tL15, tL16, opt_map_some, opt_bind_some, finF_d, finF_nx, List.getD_cons_zero, List.getD_cons_succ, List.set_cons_zero, List.set_cons_succ, List.map_cons, List.map_nil, List.length_cons, List.length_nil, List.cons_append, List.nil_append, List.replicate_succ, List.replicate_zero, Nat.reduceAdd, Nat.reduceSub, Nat.sub_self, ↓wz_lc2, ↓wz_lc2b, ↓wz_slJ, slF_i, slT_i, slB_i, slD_t, slD_l, lc2M_its, lc2M_l, lc2M_t, innL_its, innL_l, innL_t, isD_map, ↓wz_slF_int, ↓wz_slT_int, ↓wz_slB_int_int, ↓wz_slB_int_neg, ↓wz_slB_int_var, ↓wz_slB_int_bin, ↓wz_slB_int_ix, ↓wz_slF_neg, ↓wz_slT_neg, ↓wz_slB_neg_int, ↓wz_slB_neg_neg, ↓wz_slB_neg_var, ↓wz_slB_neg_bin, ↓wz_slB_neg_ix, ↓wz_slF_var, ↓wz_slT_var, ↓wz_slB_var_int, ↓wz_slB_var_neg, ↓wz_slB_var_var, ↓wz_slB_var_bin, ↓wz_slB_var_ix, ↓wz_slF_bin, ↓wz_slT_bin, ↓wz_slB_bin_int, ↓wz_slB_bin_neg, ↓wz_slB_bin_var, ↓wz_slB_bin_bin, ↓wz_slB_bin_ix, ↓wz_slF_ix, ↓wz_slT_ix, ↓wz_slB_ix_int, ↓wz_slB_ix_neg, ↓wz_slB_ix_var, ↓wz_slB_ix_bin, ↓wz_slB_ix_ix, ↓wz_slF_call, ↓wz_slT_call, ↓wz_slF_blt, ↓wz_slT_blt, ↓wz_lcn, ↓wz_lcc, ↓wz_forn, ↓wz_forc, consO_s, consO_n, forK_nx, forK_ct, forK_bk, forK_rt, c_isN, c_isnN, c_isT, c_isF, c_isnT, c_isnF, isNone_n, isNone_t, isNone_l, isNone_i, isNone_b, c_nel0, c_eql0, Bool.not_true, Bool.not_false, o_catL, o_catT, Nat.reduceLeDiff, ↓wz_mp, ↓wz_ms, layS_i, c_nes, c_eqs, b_gcd]
    refine WP.eq (off_ev (by omega) h t M) ?_
    simp only [↓WP_ok, ↓WPO_some, ↓WPB_t, ↓WPB_f, ↓WP_end, ↓pst_q, ↓pso_q, ↓pth_p, ↓WPO_map, ↓wz_var, ↓wz_int, ↓wz_bl, ↓wz_non, ↓wz_str, ↓wz_gi, ↓wz_bin, ↓wz_neg, ↓wz_cmp, ↓wz_cmp2, ↓wz_conj, ↓wz_disj, ↓wz_not, ↓wz_ite, ↓wz_tup, ↓wz_lst, ↓wz_ix, ↓wz_rev, ↓wz_nop, ↓wz_call, ↓wz_blt, ↓wz_isi, ↓wz_lc, ↓wz_lcO, ↓wz_rng, ↓wz_zip, ↓wz_lrg, ↓wz_sst, ↓wz_enm, ↓wz_get, ↓wz_get2, ↓wz_esn, ↓wz_esc, ↓wz_pn, ↓wz_pc, ↓wz_mv, ↓wz_ml, ↓wz_mk, ↓wz_mt, ↓wz_asg1, ↓wz_asgt, ↓wz_new, ↓wz_par, ↓wz_put, ↓wz_app, ↓wz_aug, ↓wz_ex, ↓wz_ifs, ↓wz_fors, ↓wz_forO, ↓wz_whl, ↓wz_ret, ↓wz_retL, ↓wz_ret0, ↓wz_brk, ↓wz_cont, ↓wz_pass, ↓wz_ssn, ↓wz_ssc, ↓wz_fb, ↓wz_lcb, negD_i, notD_b, revD_l, revD_t, isiD_d, layL_cup, layL_l, sA_nil, sA_cons, nxt_nx, nxt_rt, nxt_bk, nxt_ct, view_d, o_add, o_sub, c_lt, c_le, c_gt, c_ge, c_eqi, c_nei, ix_t0, ix_t1, ix_t2, ix_l0, ix_l1, ix_c0, ix_c1, put_c0, put_c1, b_int, b_abs, b_lenT, b_lenL, b_tupL, b_tupT, b_lstL, b_lstT, b_lstS, b_min2, b_max2, someD_d, lcM_its, lcM_l, lcM_t, forM_its, forM_l, forM_t, WP_bind, guardR_t, bt_nm, bt_tp, bts_nil, bts_cons, wipe_nil, wipe_cons, tT0, tT1, tT2, tT3, tT4, tT5, tT6, tT7, tT8, tT9, tT10, tT11, tT12, tL0, tL1, tL2, tL3, tL4, tL5, tL6, tL7, tL8, tL9, tL10, tL11, tL12, tL13, tL14, tL15, tL16, opt_map_some, opt_bind_some, finF_d, finF_nx, List.getD_cons_zero, List.getD_cons_succ, List.set_cons_zero, List.set_cons_succ, List.map_cons, List.map_nil, List.length_cons, List.length_nil, List.cons_append, List.nil_append, List.replicate_succ, List.replicate_zero, Nat.reduceAdd, Nat.reduceSub, Nat.sub_self, ↓wz_lc2, ↓wz_lc2b, ↓wz_slJ, slF_i, slT_i, slB_i, slD_t, slD_l, lc2M_its, lc2M_l, lc2M_t, innL_its, innL_l, innL_t, isD_map, ↓wz_slF_int, ↓wz_slT_int, ↓wz_slB_int_int, ↓wz_slB_int_neg, ↓wz_slB_int_var, ↓wz_slB_int_bin, ↓wz_slB_int_ix, ↓wz_slF_neg, ↓wz_slT_neg, ↓wz_slB_neg_int, ↓wz_slB_neg_neg, ↓wz_slB_neg_var, ↓wz_slB_neg_bin, ↓wz_slB_neg_ix, ↓wz_slF_var, ↓wz_slT_var, ↓wz_slB_var_int, ↓wz_slB_var_neg, ↓wz_slB_var_var, ↓wz_slB_var_bin, ↓wz_slB_var_ix, ↓wz_slF_bin, ↓wz_slT_bin, ↓wz_slB_bin_int, ↓wz_slB_bin_neg, ↓wz_slB_bin_var, ↓wz_slB_bin_bin, ↓wz_slB_bin_ix, ↓wz_slF_ix, ↓wz_slT_ix, ↓wz_slB_ix_int, ↓wz_slB_ix_neg, ↓wz_slB_ix_var, ↓wz_slB_ix_bin, ↓wz_slB_ix_ix, ↓wz_slF_call, ↓wz_slT_call, ↓wz_slF_blt, ↓wz_slT_blt, ↓wz_lcn, ↓wz_lcc, ↓wz_forn, ↓wz_forc, consO_s, consO_n, forK_nx, forK_ct, forK_bk, forK_rt, c_isN, c_isnN, c_isT, c_isF, c_isnT, c_isnF, isNone_n, isNone_t, isNone_l, isNone_i, isNone_b, c_nel0, c_eql0, Bool.not_true, Bool.not_false, o_catL, o_catT, Nat.reduceLeDiff, ↓wz_mp, ↓wz_ms, layS_i, c_nes, c_eqs, b_gcd, and_self]
  have e : (irange 0 360).map (fun t => PyData.tuple [.int (offF sk ps t), .int t]) = ((offF sk ps 0, (0 : Int)) :: (irange 1 360).map fun t => (offF sk ps t, t)).map Datum.toD := by
    rw [irange_cons (show (0 : Int) < 360 by decide), List.map_cons, List.map_cons, List.map_map]
    rfl
  have bm := fun M => b_min (offF sk ps 0, (0 : Int)) ((irange 1 360).map fun t => (offF sk ps t, t)) M (by decide)
  rw [e]
  simp only [↓WP_ok, ↓WPO_some, ↓WPB_t, ↓WPB_f, ↓WP_end, ↓pst_q, ↓pso_q, ↓pth_p, ↓WPO_map, ↓wz_var, ↓wz_int, ↓wz_bl, ↓wz_non, ↓wz_str, ↓wz_gi, ↓wz_bin, ↓wz_neg, ↓wz_cmp, ↓wz_cmp2, ↓wz_conj, ↓wz_disj, ↓wz_not, ↓wz_ite, ↓wz_tup, ↓wz_lst, ↓wz_ix, ↓wz_rev, ↓wz_nop, ↓wz_call, ↓wz_blt, ↓wz_isi, ↓wz_lc, ↓wz_lcO, ↓wz_rng, ↓wz_zip, ↓wz_lrg, ↓wz_sst, ↓wz_enm, ↓wz_get, ↓wz_get2, ↓wz_esn, ↓wz_esc, ↓wz_pn, ↓wz_pc, ↓wz_mv, ↓wz_ml, ↓wz_mk, ↓wz_mt, ↓wz_asg1, ↓wz_asgt, ↓wz_new, ↓wz_par, ↓wz_put, ↓wz_app, ↓wz_aug, ↓wz_ex, ↓wz_ifs, ↓wz_fors, ↓wz_forO, ↓wz_whl, ↓wz_ret, ↓wz_retL, ↓wz_ret0, ↓wz_brk, ↓wz_cont, ↓wz_pass, ↓wz_ssn, ↓wz_ssc, ↓wz_fb, ↓wz_lcb, negD_i, notD_b, revD_l, revD_t, isiD_d, layL_cup, layL_l, sA_nil, sA_cons, nxt_nx, nxt_rt, nxt_bk, nxt_ct, view_d, o_add, o_sub, c_lt, c_le, c_gt, c_ge, c_eqi, c_nei, ix_t0, ix_t1, ix_t2, ix_l0, ix_l1, ix_c0, ix_c1, put_c0, put_c1, b_int, b_abs, b_lenT, b_lenL, b_tupL, b_tupT, b_lstL, b_lstT, b_lstS, b_min2, b_max2, someD_d, lcM_its, lcM_l, lcM_t, forM_its, forM_l, forM_t, WP_bind, guardR_t, bt_nm, bt_tp, bts_nil, bts_cons, wipe_nil, wipe_cons, tT0, tT1, tT2, tT3, tT4, tT5, tT6, tT7, tT8, tT9, tT10, tT11, tT12, tL0, tL1, tL2, tL3, tL4, tL5, tL6, tL7, tL8, tL9, tL10, tL11, tL12, tL13, tL14, tL15, tL16, opt_map_some, opt_bind_some, finF_d, finF_nx, List.getD_cons_zero, List.getD_cons_succ, List.set_cons_zero, List.set_cons_succ, List.map_cons, List.map_nil, List.length_cons, List.length_nil, List.cons_append, List.nil_append, List.replicate_succ, List.replicate_zero, Nat.reduceAdd, Nat.reduceSub, Nat.sub_self, ↓wz_lc2, ↓wz_lc2b, ↓wz_slJ, slF_i, slT_i, slB_i, slD_t, slD_l, lc2M_its, lc2M_l, lc2M_t, innL_its, innL_l, innL_t, isD_map, ↓wz_slF_int, ↓wz_slT_int, ↓wz_slB_int_int, ↓wz_slB_int_neg, ↓wz_slB_int_var, ↓wz_slB_int_bin, ↓wz_slB_int_ix, ↓wz_slF_neg, ↓wz_slT_neg, ↓wz_slB_neg_int, ↓wz_slB_neg_neg, ↓wz_slB_neg_var, ↓wz_slB_neg_bin, ↓wz_slB_neg_ix, ↓wz_slF_var, ↓wz_slT_var, ↓wz_slB_var_int, ↓wz_slB_var_neg, ↓wz_slB_var_var, ↓wz_slB_var_bin, ↓wz_slB_var_ix, ↓wz_slF_bin, ↓wz_slT_bin, ↓wz_slB_bin_int, ↓wz_slB_bin_neg, ↓wz_slB_bin_var, ↓wz_slB_bin_bin, ↓wz_slB_bin_ix, ↓wz_slF_ix, ↓wz_slT_ix, ↓wz_slB_ix_int, ↓wz_slB_ix_neg, ↓wz_slB_ix_var, ↓wz_slB_ix_bin, ↓wz_slB_ix_ix, ↓wz_slF_call, ↓wz_slT_call, ↓wz_slF_blt, ↓wz_slT_blt, ↓wz_lcn, ↓wz_lcc, ↓wz_forn, ↓wz_forc, consO_s, consO_n, forK_nx, forK_ct, forK_bk, forK_rt, c_isN, c_isnN, c_isT, c_isF, c_isnT, c_isnF, isNone_n, isNone_t, isNone_l, isNone_i, isNone_b, c_nel0, c_eql0, Bool.not_true, Bool.not_false, o_catL, o_catT, Nat.reduceLeDiff, ↓wz_mp, ↓wz_ms, layS_i, c_nes, c_eqs, b_gcd, bm, take_all, -List.map_cons]
  exact ⟨rfl, by trivial⟩
theorem best_is {f : Int → Int} {m j : Int} (h0 : 0 ≤ j) (h1 : j < 360) (hj : f j = m) (h2 : ∀ t, 0 ≤ t → t < 360 → m ≤ f t) (h3 : ∀ t, 0 ≤ t → t < j → f t ≠ m) : bestF f = (m, j) := by
  unfold bestF
  refine minOf_eq ?_ ?_
  · by_cases e : j = 0
    · subst e
      rw [hj]
      simp
    · refine List.mem_cons_of_mem _ (List.mem_map.mpr ⟨j, mem_irange.mpr ⟨by omega, h1⟩, by rw [hj]⟩)
  · intro y hy
    obtain ⟨t, ht0, ht1, rfl⟩ : ∃ t, 0 ≤ t ∧ t < 360 ∧ y = (f t, t) := by
      rcases List.mem_cons.mp hy with rfl | hy
      · exact ⟨0, by decide, by decide, rfl⟩
      · obtain ⟨t, ht', rfl⟩ := List.mem_map.mp hy
        have := mem_irange.mp ht'
        exact ⟨t, by omega, this.2, rfl⟩
    have a := h2 t ht0 ht1
    have b := h3 t ht0
    rw [lt_pair]
    show (if f t = m then decide (t < j) else decide (f t < m)) = false
    by_cases e : f t = m
    · rw [if_pos e, decide_eq_false_iff_not]
      intro hlt
      exact b hlt e
    · rw [if_neg e, decide_eq_false_iff_not]
      omega
/-- the least of a row, and the first place of it -/
theorem least_at (f : Int → Int) : ∃ m j : Int, minOf (f 0) ((irange 1 360).map f) = m ∧ 0 ≤ j ∧ j < 360 ∧ f j = m ∧ (∀ t, 0 ≤ t → t < 360 → m ≤ f t) ∧ ∀ t, 0 ≤ t → t < j → f t ≠ m := by
  have e : f 0 :: (irange 1 360).map f = (irange 0 360).map f := by rw [irange_cons (show (0 : Int) < 360 by decide), List.map_cons]; rfl
  have h1 := minOf_mem (f 0) ((irange 1 360).map f)
  have h2 := minOf_le (f 0) ((irange 1 360).map f)
  rw [e] at h1 h2
  generalize minOf (f 0) ((irange 1 360).map f) = m at h1 h2 ⊢
  have h3 : ∀ t, 0 ≤ t → t < 360 → m ≤ f t := fun t a b => by
    have := h2 _ (List.mem_map.mpr ⟨t, mem_irange.mpr ⟨a, b⟩, rfl⟩)
    rw [lt_int, decide_eq_false_iff_not] at this
    omega
  obtain ⟨i, hi, hi2⟩ := List.mem_map.mp h1
  have hi := mem_irange.mp hi
  have key : ∀ k : Nat, ∀ i : Int, i.toNat ≤ k → 0 ≤ i → i < 360 → f i = m → ∃ j : Int, 0 ≤ j ∧ j < 360 ∧ f j = m ∧ ∀ t, 0 ≤ t → t < j → f t ≠ m := by
    intro k
    induction k with
    | zero => exact fun i a b c d => ⟨i, b, c, d, fun t x y => by omega⟩
    | succ k ih =>
      intro i a b c d
      by_cases h : ∃ t, 0 ≤ t ∧ t < i ∧ f t = m
      · obtain ⟨t, x, y, z⟩ := h
        exact ih t (by omega) x (by omega) z
      · exact ⟨i, b, c, d, fun t x y z => h ⟨t, x, y, z⟩⟩
  obtain ⟨j, a, b, c, d⟩ := key i.toNat i (Nat.le_refl _) hi.1 hi.2 hi2
  exact ⟨m, j, rfl, a, b, c, h3, d⟩
end Lk78

set_option Elab.async false
set_option linter.all false
set_option maxRecDepth 100000
set_option maxHeartbeats 1000000
namespace Lk78
open PySem Ob
open PySem.W (maxOf minOf Datum DatumOrd)
theorem off_le {sk ps : List (Int × Int)} (ne : ps ≠ []) {t s : Int} : offF sk ps t ≤ s ↔ ∀ p ∈ ps, od sk t p ≤ s := by
  obtain ⟨p, r, rfl⟩ := List.exists_cons_of_ne_nil ne
  show maxOf (od sk t p) (r.map (od sk t)) ≤ s ↔ _
  have h1 := maxOf_mem (od sk t p) (r.map (od sk t))
  have h2 := maxOf_ge (od sk t p) (r.map (od sk t))
  have e : od sk t p :: r.map (od sk t) = (p :: r).map (od sk t) := rfl
  rw [e] at h1 h2
  generalize p :: r = L at *
  constructor
  · intro h q hq
    have := h2 _ (List.mem_map_of_mem hq)
    rw [lt_int, decide_eq_false_iff_not] at this
    omega
  · intro h
    obtain ⟨q, hq, e⟩ := List.mem_map.mp h1
    rw [← e]
    exact h q hq
theorem od_nn (sk : List (Int × Int)) (t : Int) (p : Int × Int) : 0 ≤ od sk t p := by unfold od; split <;> omega
theorem off_nn {sk ps : List (Int × Int)} (ne : ps ≠ []) (t : Int) : 0 ≤ offF sk ps t := by
  obtain ⟨p, r, rfl⟩ := List.exists_cons_of_ne_nil ne
  have := (off_le (sk := sk) (t := t) ne).mp (Int.le_refl _) p (by simp)
  have := od_nn sk t p
  omega
theorem ht_in (x : Int) : -90 ≤ ht x ∧ ht x ≤ 90 := by
  unfold ht
  have := Int.emod_nonneg x (show (360 : Int) ≠ 0 by decide)
  have := Int.emod_lt_of_pos x (show (0 : Int) < 360 by decide)
  split <;> (try split) <;> omega
theorem off_180 {sk ps : List (Int × Int)} (h : Seen sk ps) (t : Int) : offF sk ps t ≤ 180 := (off_le h.ne).mpr fun p hp => by
  have := h.hi p hp
  have := ht_in (plc sk p.1 + t)
  unfold od
  split <;> omega
/-- what is seen without slips -/
def trueL (sk : List (Int × Int)) (l : List Int) (t : Int) : List (Int × Int) := l.map fun s => (s, ht (plc sk s + t))
theorem hrow_eq (sk : List (Int × Int)) (l : List Int) (t : Int) : hrow sk l t = seenD (trueL sk l t) := by
  unfold hrow seenD trueL
  rw [List.map_map]
  rfl
theorem true_fst (sk : List (Int × Int)) (l : List Int) (t : Int) : (trueL sk l t).map (·.1) = l := by
  unfold trueL
  rw [List.map_map]
  exact List.map_id' _
theorem seen_true {sk : List (Int × Int)} {l : List Int} (h : Lot (slen sk) l) (ne : l ≠ []) (t : Int) : Seen sk (trueL sk l t) := ⟨by rw [true_fst]; exact h, by unfold trueL; simpa using ne, fun p hp => by
  obtain ⟨s, _, rfl⟩ := List.mem_map.mp hp
  exact ht_in _⟩
theorem off_true {sk : List (Int × Int)} {l : List Int} (ne : l ≠ []) (t : Int) : offF sk (trueL sk l t) t ≤ 0 := (off_le (by unfold trueL; simpa using ne)).mpr fun p hp => by
  obtain ⟨s, _, rfl⟩ := List.mem_map.mp hp
  unfold od
  dsimp only
  rw [Int.sub_self]
  decide
theorem flt_mono {α : Type} {p q : α → Bool} {l : List α} (h : ∀ x ∈ l, p x = true → q x = true) : (l.filter p).length ≤ (l.filter q).length := by
  rw [← List.countP_eq_length_filter, ← List.countP_eq_length_filter]
  exact List.countP_mono_left h
theorem told_true {n : Nat} {sk : List (Int × Int)} (hs : Sky n sk) {l : List Int} (h : Lot (slen sk) l) (ne : l ≠ []) (t : Int) : ((irange 0 360).filter fun x => decide (offF sk (trueL sk l t) x ≤ 0)).length ≤ 2 := by
  obtain ⟨s, r, rfl⟩ := List.exists_cons_of_ne_nil ne
  have hs0 := h.ok s (by simp)
  have hp := plc_ok hs hs0.1 hs0.2
  have hi := ht_in (plc sk s + t)
  have hc := cnt_high hp.1 hi.1 hi.2
  refine Nat.le_trans (flt_mono (q := fun x => decide (ht (plc sk s + x) = ht (plc sk s + t))) fun x _ hx => ?_) (by rw [hc]; split <;> decide)
  have := (off_le (by unfold trueL; simp)).mp (of_decide_eq_true hx) (s, ht (plc sk s + t)) (by simp [trueL])
  unfold od at this
  dsimp only at this
  apply decide_eq_true
  split at this <;> omega
theorem told_all {sk ps : List (Int × Int)} (h : Seen sk ps) : ((irange 0 360).filter fun x => decide (offF sk ps x ≤ 180)).length = 360 := by
  rw [List.filter_eq_self.mpr fun x _ => decide_eq_true (off_180 h x), irange_len]
  rfl
/-! one star: up, and down -/
theorem lone_told {p high : Int} (hp0 : 0 ≤ p) (hp1 : p < 360) (h0 : -89 ≤ high) (h1 : high ≤ 89) :
    srtB id [(high + 360 - p) % 360, (180 - high + 360 - p) % 360] = (irange 0 360).filter fun t => decide (offF [(p, 1)] [(0, high)] t ≤ 0) := by
  refine sorted_up ((irange_up _ _).filter _) ?_ ?_
  · simp
    omega
  · intro x
    rw [List.mem_filter, mem_irange, decide_eq_true_eq, off_le (by simp)]
    simp only [List.mem_cons, List.not_mem_nil, or_false, forall_eq]
    have e : plc [(p, 1)] 0 = p := rfl
    unfold od
    dsimp only
    rw [e]
    unfold ht
    constructor
    · rintro ⟨⟨a, b⟩, c⟩
      split at c <;> split at c <;> (try split at c) <;> omega
    · rintro (rfl | rfl)
      · refine ⟨by omega, ?_⟩
        split <;> split <;> (try split) <;> omega
      · refine ⟨by omega, ?_⟩
        split <;> split <;> (try split) <;> omega
/-! the turned sky -/
abbrev Row := Int × Int × Int
def tri (x : Row) : PySem.W.Tup Int := ⟨[x.1, x.2.1, x.2.2]⟩
theorem tri_inj (a b : Row) (h : tri a = tri b) : a = b := by
  unfold tri at h
  injection h with h
  simp at h
  obtain ⟨a1, a2, a3⟩ := a
  obtain ⟨b1, b2, b3⟩ := b
  simp_all
def rowsT (sk ps : List (Int × Int)) (by' : Int) : List Row := (sk.zip ps).map fun q => ((q.1.1 + by') % 360, q.1.2, q.2.2)
def rowsS (sk ps : List (Int × Int)) (by' : Int) : List Row := srtB tri (rowsT sk ps by')
def skyT (R : List Row) : List (Int × Int) := R.map fun x => (x.1, x.2.1)
def seenT (R : List Row) : List (Int × Int) := R.zipIdx.map fun q => ((q.2 : Nat), q.1.2.2)
theorem ps_len {sk ps : List (Int × Int)} (h : Lot (slen sk) (ps.map (·.1))) (e : (ps.length : Int) = slen sk) : ps.map (·.1) = irange 0 (slen sk) := by
  have hm : 0 ≤ slen sk := by unfold slen; omega
  have key : ∀ (k : Nat) (a : Int) (l : List Int), l.length = k → l.Pairwise (· < ·) → (∀ s ∈ l, a ≤ s ∧ s < a + k) → l = irange a (a + k) := by
    intro k
    induction k with
    | zero => intro a l hl _ _; rw [List.length_eq_zero_iff.mp hl, irange_nil (by omega)]
    | succ k ih =>
      intro a l hl hp ho
      match l with
      | [] => simp at hl
      | x :: l =>
        have hp := List.pairwise_cons.mp hp
        have hx := ho x (by simp)
        have := up_len (l := l) (a := x + 1) (b := a + ((k + 1 : Nat) : Int)) hp.2 (fun s hs => by
          have := hp.1 s hs
          have := ho s (by simp [hs])
          omega) (by omega)
        have hl2 : l.length = k := by simpa using hl
        have : x = a := by omega
        subst this
        rw [irange_cons (by omega), ih (x + 1) l hl2 hp.2 fun s hs => by
          have := hp.1 s hs
          have := ho s (by simp [hs])
          omega]
        congr 2
        omega
  have := key ps.length 0 (ps.map (·.1)) (by simp) h.up fun s hs => by
    have := h.ok s hs
    omega
  rw [this]
  congr 1
  omega
theorem rowsT_mem {sk ps : List (Int × Int)} {b : Int} (h : Lot (slen sk) (ps.map (·.1))) (e : (ps.length : Int) = slen sk) (P : Row → Prop) : (∀ x ∈ rowsT sk ps b, P x) ↔ ∀ p ∈ ps, P ((plc sk p.1 + b) % 360, brt sk p.1, p.2) := by
  have hf := ps_len h e
  have hlen : sk.length = ps.length := by unfold slen at e; omega
  have at' : ∀ i : Nat, ∀ hi : i < ps.length, (ps[i].1 : Int) = i := by
    intro i hi
    have h1 : (ps.map (·.1))[i]? = some ps[i].1 := by rw [List.getElem?_map, List.getElem?_eq_getElem hi]; rfl
    rw [hf, irange_get (by omega)] at h1
    have := Option.some.inj h1
    omega
  have hz : ∀ i : Nat, ∀ hi : i < ps.length, rowsT sk ps b = rowsT sk ps b ∧ (rowsT sk ps b)[i]? = some ((plc sk ps[i].1 + b) % 360, brt sk ps[i].1, ps[i].2) := by
    intro i hi
    refine ⟨rfl, ?_⟩
    have h0 : (0 : Int) ≤ (i : Nat) := by omega
    have h1 : ((i : Nat) : Int) < slen sk := by omega
    have h2 := get_sky h0 h1
    rw [show ((i : Nat) : Int).toNat = i by omega] at h2
    unfold rowsT
    rw [List.getElem?_map, (List.getElem?_zip_eq_some (z := ((plc sk i, brt sk i), ps[i]))).mpr ⟨h2, List.getElem?_eq_getElem hi⟩, at' i hi]
    rfl
  have hl : (rowsT sk ps b).length = ps.length := by unfold rowsT; rw [List.length_map, List.length_zip]; omega
  constructor
  · intro hP p hp
    obtain ⟨i, hi, rfl⟩ := List.mem_iff_getElem.mp hp
    exact hP _ (List.mem_of_getElem? (hz i hi).2)
  · intro hP x hx
    obtain ⟨i, hi, rfl⟩ := List.mem_iff_getElem.mp hx
    rw [hl] at hi
    have h1 := (hz i hi).2
    rw [List.getElem?_eq_getElem (by omega)] at h1
    rw [Option.some.inj h1]
    exact hP _ (List.getElem_mem hi)
theorem rowsS_perm (sk ps : List (Int × Int)) (b : Int) : (rowsS sk ps b).Perm (rowsT sk ps b) := srtB_perm _ _
theorem rowsT_nodup {n : Nat} {sk ps : List (Int × Int)} (hs : Sky n sk) (hle : sk.length ≤ ps.length) (b : Int) : (rowsT sk ps b).Pairwise fun x y => x.1 ≠ y.1 := by
  unfold rowsT
  rw [List.pairwise_map]
  have e0 := List.map_fst_zip (l₁ := sk) (l₂ := ps) hle
  have e1 : (sk.zip ps).map (fun q => q.1.1) = sk.map (·.1) := by
    conv => rhs; rw [← e0]
    rw [List.map_map]
    rfl
  have h1 : (sk.zip ps).Pairwise fun x y => x.1.1 < y.1.1 := by
    have h2 := hs.up
    rw [← e1] at h2
    exact List.pairwise_map.mp h2
  have h3 : ∀ q ∈ sk.zip ps, 0 ≤ q.1.1 ∧ q.1.1 < 360 := fun q hq => by
    have := hs.ok _ (List.of_mem_zip hq).1
    exact ⟨this.1, this.2.1⟩
  refine List.pairwise_iff_forall_sublist.mpr fun {x y} hxy => ?_
  have hlt := List.pairwise_iff_forall_sublist.mp h1 hxy
  have hx := h3 x (hxy.subset (by simp))
  have hy := h3 y (hxy.subset (by simp))
  dsimp only
  omega
theorem sky_turned {sk ps : List (Int × Int)} (hs : Sky 24 sk) {b : Int} (e : (ps.length : Int) = slen sk) : Sky 24 (skyT (rowsS sk ps b)) := by
  have hp := rowsS_perm sk ps b
  have hlen : (rowsS sk ps b).length = sk.length := by
    rw [hp.length_eq]
    unfold rowsT
    rw [List.length_map, List.length_zip]
    unfold slen at e
    omega
  have hnd : (rowsS sk ps b).Pairwise fun x y => x.1 ≠ y.1 := hp.symm.pairwise (rowsT_nodup hs (by unfold slen at e; omega) b) fun h => fun e => h e.symm
  have hup := srtB_up tri (rowsT sk ps b)
  refine ⟨?_, ?_, ?_, ?_⟩
  · unfold skyT; rw [List.length_map, hlen]; exact hs.pos
  · unfold skyT; rw [List.length_map, hlen]; exact hs.len
  · unfold skyT
    rw [List.map_map, List.pairwise_map]
    refine (hnd.and hup).imp fun {x y} h => ?_
    obtain ⟨h1, h2⟩ := h
    show x.1 < y.1
    have h2 : PySem.W.listLt [y.1, y.2.1, y.2.2] [x.1, x.2.1, x.2.2] = false := h2
    simp only [PySem.W.listLt, lt_int] at h2
    rw [if_neg (fun e => h1 e.symm), decide_eq_false_iff_not] at h2
    omega
  · intro p hp'
    obtain ⟨x, hx, rfl⟩ := List.mem_map.mp hp'
    have hx := hp.mem_iff.mp hx
    obtain ⟨q, hq, rfl⟩ := List.mem_map.mp hx
    have := hs.ok _ (List.of_mem_zip hq).1
    dsimp only
    exact ⟨Int.emod_nonneg _ (by decide), Int.emod_lt_of_pos _ (by decide), this.2.2⟩
theorem slen_T (R : List Row) : slen (skyT R) = R.length := by unfold slen skyT; rw [List.length_map]
theorem seen_turned {sk ps : List (Int × Int)} (h : Seen sk ps) (b : Int) (e : (ps.length : Int) = slen sk) : Seen (skyT (rowsS sk ps b)) (seenT (rowsS sk ps b)) := by
  have hp := rowsS_perm sk ps b
  have hne : rowsS sk ps b ≠ [] := by
    intro hc
    have := hp.length_eq
    rw [hc] at this
    unfold rowsT at this
    rw [List.length_map, List.length_zip] at this
    have := List.length_pos_iff.mpr h.ne
    unfold slen at e
    simp at *
    omega
  refine ⟨?_, ?_, ?_⟩
  · have e2 : (seenT (rowsS sk ps b)).map (·.1) = irange 0 (slen (skyT (rowsS sk ps b))) := by
      unfold seenT
      rw [slen_T, List.map_map]
      have : ((fun x : Int × Int => x.1) ∘ fun q : Row × Nat => (((q.2 : Nat) : Int), q.1.2.2)) = (fun i : Nat => (i : Int)) ∘ Prod.snd := rfl
      rw [this, ← List.map_map, List.zipIdx_map_snd, ← List.range_eq_range']
      unfold irange
      rw [show (((rowsS sk ps b).length : Int) - 0).toNat = (rowsS sk ps b).length by omega]
      apply List.map_congr_left
      intro i _
      omega
    rw [e2]
    exact lot_all _
  · unfold seenT
    intro hc
    have := congrArg List.length hc
    rw [List.length_map, List.length_zipIdx] at this
    exact hne (List.length_eq_zero_iff.mp this)
  · intro p hp'
    obtain ⟨q, hq, rfl⟩ := List.mem_map.mp hp'
    have hx : q.1 ∈ rowsS sk ps b := by
      obtain ⟨x, i⟩ := q
      exact List.mem_of_getElem? (List.mem_zipIdx_iff_getElem?.mp hq)
    have := (rowsT_mem (b := b) h.lot e fun x => -90 ≤ x.2.2 ∧ x.2.2 ≤ 90).mpr (fun p hp => h.hi p hp) _ (hp.mem_iff.mp hx)
    exact this
theorem off_turned {sk ps : List (Int × Int)} (h : Seen sk ps) (b : Int) (e : (ps.length : Int) = slen sk) (t s : Int) : offF (skyT (rowsS sk ps b)) (seenT (rowsS sk ps b)) t ≤ s ↔ offF sk ps ((t + b) % 360) ≤ s := by
  have hp := rowsS_perm sk ps b
  have hT := seen_turned h b e
  rw [off_le hT.ne, off_le h.ne]
  have h1 : (∀ p ∈ seenT (rowsS sk ps b), od (skyT (rowsS sk ps b)) t p ≤ s) ↔ ∀ x ∈ rowsS sk ps b, (if ht (x.1 + t) - x.2.2 < 0 then -(ht (x.1 + t) - x.2.2) else ht (x.1 + t) - x.2.2) ≤ s := by
    have at' : ∀ (i : Nat) (x : Row), (rowsS sk ps b)[i]? = some x → plc (skyT (rowsS sk ps b)) (i : Nat) = x.1 := by
      intro i x hx
      unfold plc skyT
      rw [List.getD_eq_getElem?_getD, List.getElem?_map, show ((i : Nat) : Int).toNat = i by omega, hx]
      rfl
    constructor
    · intro hh x hx
      obtain ⟨i, hi, rfl⟩ := List.mem_iff_getElem.mp hx
      have := hh ((i : Nat), (rowsS sk ps b)[i].2.2) (List.mem_map.mpr ⟨((rowsS sk ps b)[i], i), List.mem_zipIdx_iff_getElem?.mpr (List.getElem?_eq_getElem hi), rfl⟩)
      unfold od at this
      rw [at' i _ (List.getElem?_eq_getElem hi)] at this
      exact this
    · intro hh p hp'
      obtain ⟨⟨x, i⟩, hq, rfl⟩ := List.mem_map.mp hp'
      have hx := List.mem_zipIdx_iff_getElem?.mp hq
      have := hh x (List.mem_of_getElem? hx)
      unfold od
      rw [at' i _ hx]
      exact this
  rw [h1]
  have h2 : (∀ x ∈ rowsS sk ps b, (if ht (x.1 + t) - x.2.2 < 0 then -(ht (x.1 + t) - x.2.2) else ht (x.1 + t) - x.2.2) ≤ s) ↔ ∀ x ∈ rowsT sk ps b, (if ht (x.1 + t) - x.2.2 < 0 then -(ht (x.1 + t) - x.2.2) else ht (x.1 + t) - x.2.2) ≤ s := by
    constructor
    · exact fun h x hx => h x (hp.mem_iff.mpr hx)
    · exact fun h x hx => h x (hp.mem_iff.mp hx)
  rw [h2, rowsT_mem h.lot e fun x => (if ht (x.1 + t) - x.2.2 < 0 then -(ht (x.1 + t) - x.2.2) else ht (x.1 + t) - x.2.2) ≤ s]
  have h3 : ∀ p : Int × Int, ht ((plc sk p.1 + b) % 360 + t) = ht (plc sk p.1 + (t + b) % 360) := by
    intro p
    unfold ht
    rw [show ((plc sk p.1 + b) % 360 + t) % 360 = (plc sk p.1 + (t + b) % 360) % 360 by omega]
  constructor
  · intro hh p hp
    have := hh p hp
    dsimp only at this
    rw [h3 p] at this
    exact this
  · intro hh p hp
    have := hh p hp
    dsimp only
    rw [h3 p]
    exact this
theorem told_turned {sk ps : List (Int × Int)} (h : Seen sk ps) {b : Int} (hb0 : 0 ≤ b) (hb1 : b < 360) (e : (ps.length : Int) = slen sk) (s : Int) :
    srtB id (((irange 0 360).filter fun t => decide (offF sk ps t ≤ s)).map fun t => (t + 360 - b) % 360) = (irange 0 360).filter fun t => decide (offF (skyT (rowsS sk ps b)) (seenT (rowsS sk ps b)) t ≤ s) := by
  refine sorted_up ((irange_up _ _).filter _) ?_ ?_
  · rw [List.nodup_iff_pairwise_ne, List.pairwise_map]
    refine List.pairwise_iff_forall_sublist.mpr fun {x y} hxy => ?_
    have hlt := List.pairwise_iff_forall_sublist.mp ((irange_up 0 360).filter _) hxy
    have hx := mem_irange.mp (List.mem_filter.mp (hxy.subset (show x ∈ [x, y] by simp))).1
    have hy := mem_irange.mp (List.mem_filter.mp (hxy.subset (show y ∈ [x, y] by simp))).1
    omega
  · intro x
    rw [List.mem_filter, mem_irange, decide_eq_true_eq, off_turned h b e, List.mem_map]
    constructor
    · rintro ⟨⟨h0, h1⟩, h2⟩
      refine ⟨(x + b) % 360, List.mem_filter.mpr ⟨mem_irange.mpr (by omega), decide_eq_true h2⟩, by omega⟩
    · rintro ⟨y, hy, rfl⟩
      obtain ⟨hy1, hy2⟩ := List.mem_filter.mp hy
      have hy1 := mem_irange.mp hy1
      refine ⟨by omega, ?_⟩
      rw [show ((y + 360 - b) % 360 + b) % 360 = y by omega]
      exact of_decide_eq_true hy2
end Lk78

set_option Elab.async false
set_option linter.all false
set_option maxRecDepth 100000
set_option maxHeartbeats 4000000
namespace Lk78
open PySem Ob
open PySem.W (maxOf minOf Datum DatumOrd)
theorem Kr : Rolls fns WF 18 (rvG 30931 7907 2147483399 251 2147483563 829) (rcG 30931 7907 2147483399) := roll_ok rfl (by decide) (by decide) (by decide) (by decide)
theorem pl_seen (ps : List (Int × Int)) (h : ps.length ≤ 16777216) : pl (seenD ps) = true := pl_map h fun p _ => plT (by simp) (pl1 (plI _) (pl1 (plI _) pl0))
theorem tri_toD (l : List Row) : l.map (fun x => Datum.toD (tri x)) = l.map fun x => PyData.tuple [.int x.1, .int x.2.1, .int x.2.2] := rfl
theorem tri_toD1 (x : Row) : Datum.toD (tri x) = PyData.tuple [.int x.1, .int x.2.1, .int x.2.2] := rfl
theorem skyT_D (R : List Row) : skyD (skyT R) = .tuple (R.map fun x => .tuple [.int x.1, .int x.2.1]) := by
  unfold skyD skyT
  rw [List.map_map]
  rfl
theorem seenT_D (R : List Row) : seenD (seenT R) = .tuple (R.zipIdx.map fun q => .tuple [.int (q.2 : Nat), .int q.1.2.2]) := by
  unfold seenD seenT
  rw [List.map_map]
  rfl
theorem law_true (ns : List Int) (hns : ns.length ≤ 63) : evFn fns WF LV 23 [.scr (ns.map .int)] [] = Rs.ok (.d (.bool true)) [] := by
  rw [show LV = 29 + 1 from rfl, evF f_law rfl rfl]
  simp only [f_law]
  apply WP.to_eq
  obtain ⟨c0, hc0⟩ := cup_ok (T := fns) (wf := WF) (i := 17) (n := 29) rfl (by decide) (by decide) (by decide) (by decide) ns hns []
  have r360 := fun M => rng_z (b := 360) M (by decide) (by decide)
  simp only [↓WP_ok, ↓WPO_some, ↓WPB_t, ↓WPB_f, ↓WP_end, ↓pst_q, ↓pso_q, ↓pth_p, ↓WPO_map, ↓wz_var, ↓wz_int, ↓wz_bl, ↓wz_non, ↓wz_str, ↓wz_gi, ↓wz_bin, ↓wz_neg, ↓wz_cmp, ↓wz_cmp2, ↓wz_conj, ↓wz_disj, ↓wz_not, ↓wz_ite, ↓wz_tup, ↓wz_lst, ↓wz_ix, ↓wz_rev, ↓wz_nop, ↓wz_call, ↓wz_blt, ↓wz_isi, ↓wz_lc, ↓wz_lcO, ↓wz_rng, ↓wz_zip, ↓wz_lrg, ↓wz_sst, ↓wz_enm, ↓wz_get, ↓wz_get2, ↓wz_esn, ↓wz_esc, ↓wz_pn, ↓wz_pc, ↓wz_mv, ↓wz_ml, ↓wz_mk, ↓wz_mt, ↓wz_asg1, ↓wz_asgt, ↓wz_new, ↓wz_par, ↓wz_put, ↓wz_app, ↓wz_aug, ↓wz_ex, ↓wz_ifs, ↓wz_fors, ↓wz_forO, ↓wz_whl, ↓wz_ret, ↓wz_retL, ↓wz_ret0, ↓wz_brk, ↓wz_cont, ↓wz_pass, ↓wz_ssn, ↓wz_ssc, ↓wz_fb, ↓wz_lcb, negD_i, notD_b, revD_l, revD_t, isiD_d, layL_cup, layL_l, sA_nil, sA_cons, nxt_nx, nxt_rt, nxt_bk, nxt_ct, view_d, o_add, o_sub, c_lt, c_le, c_gt, c_ge, c_eqi, c_nei, ix_t0, ix_t1, ix_t2, ix_l0, ix_l1, ix_c0, ix_c1, put_c0, put_c1, b_int, b_abs, b_lenT, b_lenL, b_tupL, b_tupT, b_lstL, b_lstT, b_lstS, b_min2, b_max2, someD_d, lcM_its, lcM_l, lcM_t, forM_its, forM_l, forM_t, WP_bind, guardR_t, bt_nm, bt_tp, bts_nil, bts_cons, wipe_nil, wipe_cons, tT0, tT1, tT2, tT3, tT4, tT5, tT6, tT7, tT8, tT9, tT10, tT11, tT12, tL0, tL1, tL2, tL3, tL4, tL5, tL6, tL7, tL8, tL9, tL10, tL11, tL12, tL13, tL14, tL15, tL16, opt_map_some, opt_bind_some, finF_d, finF_nx, List.getD_cons_zero, List.getD_cons_succ, List.set_cons_zero, List.set_cons_succ, List.map_cons, List.map_nil, List.length_cons, List.length_nil, List.cons_append, List.nil_append, List.replicate_succ, List.replicate_zero, Nat.reduceAdd, Nat.reduceSub, Nat.sub_self, ↓wz_lc2, ↓wz_lc2b, ↓wz_slJ, slF_i, slT_i, slB_i, slD_t, slD_l, lc2M_its, lc2M_l, lc2M_t, innL_its, innL_l, innL_t, isD_map, ↓wz_slF_int, ↓wz_slT_int, ↓wz_slB_int_int, ↓wz_slB_int_neg, ↓wz_slB_int_var, ↓wz_slB_int_bin, ↓wz_slB_int_ix, ↓wz_slF_neg, ↓wz_slT_neg, ↓wz_slB_neg_int, ↓wz_slB_neg_neg, ↓wz_slB_neg_var, ↓wz_slB_neg_bin, ↓wz_slB_neg_ix, ↓wz_slF_var, ↓wz_slT_var, ↓wz_slB_var_int, ↓wz_slB_var_neg, ↓wz_slB_var_var, ↓wz_slB_var_bin, ↓wz_slB_var_ix, ↓wz_slF_bin, ↓wz_slT_bin, ↓wz_slB_bin_int, ↓wz_slB_bin_neg, ↓wz_slB_bin_var, ↓wz_slB_bin_bin, ↓wz_slB_bin_ix, ↓wz_slF_ix, ↓wz_slT_ix, ↓wz_slB_ix_int, ↓wz_slB_ix_neg, ↓wz_slB_ix_var, ↓wz_slB_ix_bin, ↓wz_slB_ix_ix, ↓wz_slF_call, ↓wz_slT_call, ↓wz_slF_blt, ↓wz_slT_blt, ↓wz_lcn, ↓wz_lcc, ↓wz_forn, ↓wz_forc, consO_s, consO_n, forK_nx, forK_ct, forK_bk, forK_rt, c_isN, c_isnN, c_isT, c_isF, c_isnT, c_isnF, isNone_n, isNone_t, isNone_l, isNone_i, isNone_b, c_nel0, c_eql0, Bool.not_true, Bool.not_false, o_catL, o_catT, Nat.reduceLeDiff, ↓wz_mp, ↓wz_ms, layS_i, c_nes, c_eqs, b_gcd, hc0, rng_z (b := 5) _ (by decide) (by decide)]
  refine WP.forZ (fun i ρ M => ∃ c, M = [cupM c] ∧ ∃ o : Nat → Option D, ρ = [some (.scr (ns.map .int)), some (.own 0), o 2, o 3, o 4, o 5, o 6, o 7, o 8, o 9, o 10, o 11, o 12, o 13, o 14, o 15, o 16, o 17, o 18, o 19, o 20, o 21, o 22, o 23]) (by decide) ⟨_, rfl, exO rfl⟩ ?_ ?_
  · rintro i ρ M _ _ ⟨c, rfl, o, rfl⟩
    simp only [↓WP_ok, ↓WPO_some, ↓WPB_t, ↓WPB_f, ↓WP_end, ↓pst_q, ↓pso_q, ↓pth_p, ↓WPO_map, ↓wz_var, ↓wz_int, ↓wz_bl, ↓wz_non, ↓wz_str, ↓wz_gi, ↓wz_bin, ↓wz_neg, ↓wz_cmp, ↓wz_cmp2, ↓wz_conj, ↓wz_disj, ↓wz_not, ↓wz_ite, ↓wz_tup, ↓wz_lst, ↓wz_ix, ↓wz_rev, ↓wz_nop, ↓wz_call, ↓wz_blt, ↓wz_isi, ↓wz_lc, ↓wz_lcO, ↓wz_rng, ↓wz_zip, ↓wz_lrg, ↓wz_sst, ↓wz_enm, ↓wz_get, ↓wz_get2, ↓wz_esn, ↓wz_esc, ↓wz_pn, ↓wz_pc, ↓wz_mv, ↓wz_ml, ↓wz_mk, ↓wz_mt, ↓wz_asg1, ↓wz_asgt, ↓wz_new, ↓wz_par, ↓wz_put, ↓wz_app, ↓wz_aug, ↓wz_ex, ↓wz_ifs, ↓wz_fors, ↓wz_forO, ↓wz_whl, ↓wz_ret, ↓wz_retL, ↓wz_ret0, ↓wz_brk, ↓wz_cont, ↓wz_pass, ↓wz_ssn, ↓wz_ssc, ↓wz_fb, ↓wz_lcb, negD_i, notD_b, revD_l, revD_t, isiD_d, layL_cup, layL_l, sA_nil, sA_cons, nxt_nx, nxt_rt, nxt_bk, nxt_ct, view_d, o_add, o_sub, c_lt, c_le, c_gt, c_ge, c_eqi, c_nei, ix_t0, ix_t1, ix_t2, ix_l0, ix_l1, ix_c0, ix_c1, put_c0, put_c1, b_int, b_abs, b_lenT, b_lenL, b_tupL, b_tupT, b_lstL, b_lstT, b_lstS, b_min2, b_max2, someD_d, lcM_its, lcM_l, lcM_t, forM_its, forM_l, forM_t, WP_bind, guardR_t, bt_nm, bt_tp, bts_nil, bts_cons, wipe_nil, wipe_cons, tT0, tT1, tT2, tT3, tT4, tT5, tT6, tT7, tT8, tT9, tT10, tT11, tT12, tL0, tL1, tL2, tL3, tL4, tL5, tL6, tL7, tL8, tL9, tL10, tL11, tL12, tL13, tL14, tL15, tL16, opt_map_some, opt_bind_some, finF_d, finF_nx, List.getD_cons_zero, List.getD_cons_succ, List.set_cons_zero, List.set_cons_succ, List.map_cons, List.map_nil, List.length_cons, List.length_nil, List.cons_append, List.nil_append, List.replicate_succ, List.replicate_zero, Nat.reduceAdd, Nat.reduceSub, Nat.sub_self, ↓wz_lc2, ↓wz_lc2b, ↓wz_slJ, slF_i, slT_i, slB_i, slD_t, slD_l, lc2M_its, lc2M_l, lc2M_t, innL_its, innL_l, innL_t, isD_map, ↓wz_slF_int, ↓wz_slT_int, ↓wz_slB_int_int, ↓wz_slB_int_neg, ↓wz_slB_int_var, ↓wz_slB_int_bin, ↓wz_slB_int_ix, ↓wz_slF_neg, ↓wz_slT_neg, ↓wz_slB_neg_int, ↓wz_slB_neg_neg, ↓wz_slB_neg_var, ↓wz_slB_neg_bin, ↓wz_slB_neg_ix, ↓wz_slF_var, ↓wz_slT_var, ↓wz_slB_var_int, ↓wz_slB_var_neg, ↓wz_slB_var_var, ↓wz_slB_var_bin, ↓wz_slB_var_ix, ↓wz_slF_bin, ↓wz_slT_bin, ↓wz_slB_bin_int, ↓wz_slB_bin_neg, ↓wz_slB_bin_var, ↓wz_slB_bin_bin, ↓wz_slB_bin_ix, ↓wz_slF_ix, ↓wz_slT_ix, ↓wz_slB_ix_int, ↓wz_slB_ix_neg, ↓wz_slB_ix_var, ↓wz_slB_ix_bin, ↓wz_slB_ix_ix, ↓wz_slF_call, ↓wz_slT_call, ↓wz_slF_blt, ↓wz_slT_blt, ↓wz_lcn, ↓wz_lcc, ↓wz_forn, ↓wz_forc, consO_s, consO_n, forK_nx, forK_ct, forK_bk, forK_rt, c_isN, c_isnN, c_isT, c_isF, c_isnT, c_isnF, isNone_n, isNone_t, isNone_l, isNone_i, isNone_b, c_nel0, c_eql0, Bool.not_true, Bool.not_false, o_catL, o_catT, Nat.reduceLeDiff, ↓wz_mp, ↓wz_ms, layS_i, c_nes, c_eqs, b_gcd]
    refine WP.sky Kr rfl rfl (by decide) (by decide) (by decide) (fun sk c hs => ?_)
    have hl := slen_ok hs
    have hs24 := sky_lift hs (show Int.toNat 8 ≤ 24 by decide)
    simp only [↓WP_ok, ↓WPO_some, ↓WPB_t, ↓WPB_f, ↓WP_end, ↓pst_q, ↓pso_q, ↓pth_p, ↓WPO_map, ↓wz_var, ↓wz_int, ↓wz_bl, ↓wz_non, ↓wz_str, ↓wz_gi, ↓wz_bin, ↓wz_neg, ↓wz_cmp, ↓wz_cmp2, ↓wz_conj, ↓wz_disj, ↓wz_not, ↓wz_ite, ↓wz_tup, ↓wz_lst, ↓wz_ix, ↓wz_rev, ↓wz_nop, ↓wz_call, ↓wz_blt, ↓wz_isi, ↓wz_lc, ↓wz_lcO, ↓wz_rng, ↓wz_zip, ↓wz_lrg, ↓wz_sst, ↓wz_enm, ↓wz_get, ↓wz_get2, ↓wz_esn, ↓wz_esc, ↓wz_pn, ↓wz_pc, ↓wz_mv, ↓wz_ml, ↓wz_mk, ↓wz_mt, ↓wz_asg1, ↓wz_asgt, ↓wz_new, ↓wz_par, ↓wz_put, ↓wz_app, ↓wz_aug, ↓wz_ex, ↓wz_ifs, ↓wz_fors, ↓wz_forO, ↓wz_whl, ↓wz_ret, ↓wz_retL, ↓wz_ret0, ↓wz_brk, ↓wz_cont, ↓wz_pass, ↓wz_ssn, ↓wz_ssc, ↓wz_fb, ↓wz_lcb, negD_i, notD_b, revD_l, revD_t, isiD_d, layL_cup, layL_l, sA_nil, sA_cons, nxt_nx, nxt_rt, nxt_bk, nxt_ct, view_d, o_add, o_sub, c_lt, c_le, c_gt, c_ge, c_eqi, c_nei, ix_t0, ix_t1, ix_t2, ix_l0, ix_l1, ix_c0, ix_c1, put_c0, put_c1, b_int, b_abs, b_lenT, b_lenL, b_tupL, b_tupT, b_lstL, b_lstT, b_lstS, b_min2, b_max2, someD_d, lcM_its, lcM_l, lcM_t, forM_its, forM_l, forM_t, WP_bind, guardR_t, bt_nm, bt_tp, bts_nil, bts_cons, wipe_nil, wipe_cons, tT0, tT1, tT2, tT3, tT4, tT5, tT6, tT7, tT8, tT9, tT10, tT11, tT12, tL0, tL1, tL2, tL3, tL4, tL5, tL6, tL7, tL8, tL9, tL10, tL11, tL12, tL13, tL14, tL15, tL16, opt_map_some, opt_bind_some, finF_d, finF_nx, List.getD_cons_zero, List.getD_cons_succ, List.set_cons_zero, List.set_cons_succ, List.map_cons, List.map_nil, List.length_cons, List.length_nil, List.cons_append, List.nil_append, List.replicate_succ, List.replicate_zero, Nat.reduceAdd, Nat.reduceSub, Nat.sub_self, ↓wz_lc2, ↓wz_lc2b, ↓wz_slJ, slF_i, slT_i, slB_i, slD_t, slD_l, lc2M_its, lc2M_l, lc2M_t, innL_its, innL_l, innL_t, isD_map, ↓wz_slF_int, ↓wz_slT_int, ↓wz_slB_int_int, ↓wz_slB_int_neg, ↓wz_slB_int_var, ↓wz_slB_int_bin, ↓wz_slB_int_ix, ↓wz_slF_neg, ↓wz_slT_neg, ↓wz_slB_neg_int, ↓wz_slB_neg_neg, ↓wz_slB_neg_var, ↓wz_slB_neg_bin, ↓wz_slB_neg_ix, ↓wz_slF_var, ↓wz_slT_var, ↓wz_slB_var_int, ↓wz_slB_var_neg, ↓wz_slB_var_var, ↓wz_slB_var_bin, ↓wz_slB_var_ix, ↓wz_slF_bin, ↓wz_slT_bin, ↓wz_slB_bin_int, ↓wz_slB_bin_neg, ↓wz_slB_bin_var, ↓wz_slB_bin_bin, ↓wz_slB_bin_ix, ↓wz_slF_ix, ↓wz_slT_ix, ↓wz_slB_ix_int, ↓wz_slB_ix_neg, ↓wz_slB_ix_var, ↓wz_slB_ix_bin, ↓wz_slB_ix_ix, ↓wz_slF_call, ↓wz_slT_call, ↓wz_slF_blt, ↓wz_slT_blt, ↓wz_lcn, ↓wz_lcc, ↓wz_forn, ↓wz_forc, consO_s, consO_n, forK_nx, forK_ct, forK_bk, forK_rt, c_isN, c_isnN, c_isT, c_isF, c_isnT, c_isnF, isNone_n, isNone_t, isNone_l, isNone_i, isNone_b, c_nel0, c_eql0, Bool.not_true, Bool.not_false, o_catL, o_catT, Nat.reduceLeDiff, ↓wz_mp, ↓wz_ms, layS_i, c_nes, c_eqs, b_gcd, len_sky]
    refine WP.roll Kr (by decide) (by decide) (by decide) (fun step c ht0 ht1 => ?_)
    simp only [↓WP_ok, ↓WPO_some, ↓WPB_t, ↓WPB_f, ↓WP_end, ↓pst_q, ↓pso_q, ↓pth_p, ↓WPO_map, ↓wz_var, ↓wz_int, ↓wz_bl, ↓wz_non, ↓wz_str, ↓wz_gi, ↓wz_bin, ↓wz_neg, ↓wz_cmp, ↓wz_cmp2, ↓wz_conj, ↓wz_disj, ↓wz_not, ↓wz_ite, ↓wz_tup, ↓wz_lst, ↓wz_ix, ↓wz_rev, ↓wz_nop, ↓wz_call, ↓wz_blt, ↓wz_isi, ↓wz_lc, ↓wz_lcO, ↓wz_rng, ↓wz_zip, ↓wz_lrg, ↓wz_sst, ↓wz_enm, ↓wz_get, ↓wz_get2, ↓wz_esn, ↓wz_esc, ↓wz_pn, ↓wz_pc, ↓wz_mv, ↓wz_ml, ↓wz_mk, ↓wz_mt, ↓wz_asg1, ↓wz_asgt, ↓wz_new, ↓wz_par, ↓wz_put, ↓wz_app, ↓wz_aug, ↓wz_ex, ↓wz_ifs, ↓wz_fors, ↓wz_forO, ↓wz_whl, ↓wz_ret, ↓wz_retL, ↓wz_ret0, ↓wz_brk, ↓wz_cont, ↓wz_pass, ↓wz_ssn, ↓wz_ssc, ↓wz_fb, ↓wz_lcb, negD_i, notD_b, revD_l, revD_t, isiD_d, layL_cup, layL_l, sA_nil, sA_cons, nxt_nx, nxt_rt, nxt_bk, nxt_ct, view_d, o_add, o_sub, c_lt, c_le, c_gt, c_ge, c_eqi, c_nei, ix_t0, ix_t1, ix_t2, ix_l0, ix_l1, ix_c0, ix_c1, put_c0, put_c1, b_int, b_abs, b_lenT, b_lenL, b_tupL, b_tupT, b_lstL, b_lstT, b_lstS, b_min2, b_max2, someD_d, lcM_its, lcM_l, lcM_t, forM_its, forM_l, forM_t, WP_bind, guardR_t, bt_nm, bt_tp, bts_nil, bts_cons, wipe_nil, wipe_cons, tT0, tT1, tT2, tT3, tT4, tT5, tT6, tT7, tT8, tT9, tT10, tT11, tT12, tL0, tL1, tL2, tL3, tL4, tL5, tL6, tL7, tL8, tL9, tL10, tL11, tL12, tL13, tL14, tL15, tL16, opt_map_some, opt_bind_some, finF_d, finF_nx, List.getD_cons_zero, List.getD_cons_succ, List.set_cons_zero, List.set_cons_succ, List.map_cons, List.map_nil, List.length_cons, List.length_nil, List.cons_append, List.nil_append, List.replicate_succ, List.replicate_zero, Nat.reduceAdd, Nat.reduceSub, Nat.sub_self, ↓wz_lc2, ↓wz_lc2b, ↓wz_slJ, slF_i, slT_i, slB_i, slD_t, slD_l, lc2M_its, lc2M_l, lc2M_t, innL_its, innL_l, innL_t, isD_map, ↓wz_slF_int, ↓wz_slT_int, ↓wz_slB_int_int, ↓wz_slB_int_neg, ↓wz_slB_int_var, ↓wz_slB_int_bin, ↓wz_slB_int_ix, ↓wz_slF_neg, ↓wz_slT_neg, ↓wz_slB_neg_int, ↓wz_slB_neg_neg, ↓wz_slB_neg_var, ↓wz_slB_neg_bin, ↓wz_slB_neg_ix, ↓wz_slF_var, ↓wz_slT_var, ↓wz_slB_var_int, ↓wz_slB_var_neg, ↓wz_slB_var_var, ↓wz_slB_var_bin, ↓wz_slB_var_ix, ↓wz_slF_bin, ↓wz_slT_bin, ↓wz_slB_bin_int, ↓wz_slB_bin_neg, ↓wz_slB_bin_var, ↓wz_slB_bin_bin, ↓wz_slB_bin_ix, ↓wz_slF_ix, ↓wz_slT_ix, ↓wz_slB_ix_int, ↓wz_slB_ix_neg, ↓wz_slB_ix_var, ↓wz_slB_ix_bin, ↓wz_slB_ix_ix, ↓wz_slF_call, ↓wz_slT_call, ↓wz_slF_blt, ↓wz_slT_blt, ↓wz_lcn, ↓wz_lcc, ↓wz_forn, ↓wz_forc, consO_s, consO_n, forK_nx, forK_ct, forK_bk, forK_rt, c_isN, c_isnN, c_isT, c_isF, c_isnT, c_isnF, isNone_n, isNone_t, isNone_l, isNone_i, isNone_b, c_nel0, c_eql0, Bool.not_true, Bool.not_false, o_catL, o_catT, Nat.reduceLeDiff, ↓wz_mp, ↓wz_ms, layS_i, c_nes, c_eqs, b_gcd]
    refine WP.roll Kr (by decide) (by decide) (by decide) (fun nm c hn0 hn1 => ?_)
    simp only [↓WP_ok, ↓WPO_some, ↓WPB_t, ↓WPB_f, ↓WP_end, ↓pst_q, ↓pso_q, ↓pth_p, ↓WPO_map, ↓wz_var, ↓wz_int, ↓wz_bl, ↓wz_non, ↓wz_str, ↓wz_gi, ↓wz_bin, ↓wz_neg, ↓wz_cmp, ↓wz_cmp2, ↓wz_conj, ↓wz_disj, ↓wz_not, ↓wz_ite, ↓wz_tup, ↓wz_lst, ↓wz_ix, ↓wz_rev, ↓wz_nop, ↓wz_call, ↓wz_blt, ↓wz_isi, ↓wz_lc, ↓wz_lcO, ↓wz_rng, ↓wz_zip, ↓wz_lrg, ↓wz_sst, ↓wz_enm, ↓wz_get, ↓wz_get2, ↓wz_esn, ↓wz_esc, ↓wz_pn, ↓wz_pc, ↓wz_mv, ↓wz_ml, ↓wz_mk, ↓wz_mt, ↓wz_asg1, ↓wz_asgt, ↓wz_new, ↓wz_par, ↓wz_put, ↓wz_app, ↓wz_aug, ↓wz_ex, ↓wz_ifs, ↓wz_fors, ↓wz_forO, ↓wz_whl, ↓wz_ret, ↓wz_retL, ↓wz_ret0, ↓wz_brk, ↓wz_cont, ↓wz_pass, ↓wz_ssn, ↓wz_ssc, ↓wz_fb, ↓wz_lcb, negD_i, notD_b, revD_l, revD_t, isiD_d, layL_cup, layL_l, sA_nil, sA_cons, nxt_nx, nxt_rt, nxt_bk, nxt_ct, view_d, o_add, o_sub, c_lt, c_le, c_gt, c_ge, c_eqi, c_nei, ix_t0, ix_t1, ix_t2, ix_l0, ix_l1, ix_c0, ix_c1, put_c0, put_c1, b_int, b_abs, b_lenT, b_lenL, b_tupL, b_tupT, b_lstL, b_lstT, b_lstS, b_min2, b_max2, someD_d, lcM_its, lcM_l, lcM_t, forM_its, forM_l, forM_t, WP_bind, guardR_t, bt_nm, bt_tp, bts_nil, bts_cons, wipe_nil, wipe_cons, tT0, tT1, tT2, tT3, tT4, tT5, tT6, tT7, tT8, tT9, tT10, tT11, tT12, tL0, tL1, tL2, tL3, tL4, tL5, tL6, tL7, tL8, tL9, tL10, tL11, tL12, tL13, tL14, tL15, tL16, opt_map_some, opt_bind_some, finF_d, finF_nx, List.getD_cons_zero, List.getD_cons_succ, List.set_cons_zero, List.set_cons_succ, List.map_cons, List.map_nil, List.length_cons, List.length_nil, List.cons_append, List.nil_append, List.replicate_succ, List.replicate_zero, Nat.reduceAdd, Nat.reduceSub, Nat.sub_self, ↓wz_lc2, ↓wz_lc2b, ↓wz_slJ, slF_i, slT_i, slB_i, slD_t, slD_l, lc2M_its, lc2M_l, lc2M_t, innL_its, innL_l, innL_t, isD_map, ↓wz_slF_int, ↓wz_slT_int, ↓wz_slB_int_int, ↓wz_slB_int_neg, ↓wz_slB_int_var, ↓wz_slB_int_bin, ↓wz_slB_int_ix, ↓wz_slF_neg, ↓wz_slT_neg, ↓wz_slB_neg_int, ↓wz_slB_neg_neg, ↓wz_slB_neg_var, ↓wz_slB_neg_bin, ↓wz_slB_neg_ix, ↓wz_slF_var, ↓wz_slT_var, ↓wz_slB_var_int, ↓wz_slB_var_neg, ↓wz_slB_var_var, ↓wz_slB_var_bin, ↓wz_slB_var_ix, ↓wz_slF_bin, ↓wz_slT_bin, ↓wz_slB_bin_int, ↓wz_slB_bin_neg, ↓wz_slB_bin_var, ↓wz_slB_bin_bin, ↓wz_slB_bin_ix, ↓wz_slF_ix, ↓wz_slT_ix, ↓wz_slB_ix_int, ↓wz_slB_ix_neg, ↓wz_slB_ix_var, ↓wz_slB_ix_bin, ↓wz_slB_ix_ix, ↓wz_slF_call, ↓wz_slT_call, ↓wz_slF_blt, ↓wz_slT_blt, ↓wz_lcn, ↓wz_lcc, ↓wz_forn, ↓wz_forc, consO_s, consO_n, forK_nx, forK_ct, forK_bk, forK_rt, c_isN, c_isnN, c_isT, c_isF, c_isnT, c_isnF, isNone_n, isNone_t, isNone_l, isNone_i, isNone_b, c_nel0, c_eql0, Bool.not_true, Bool.not_false, o_catL, o_catT, Nat.reduceLeDiff, ↓wz_mp, ↓wz_ms, layS_i, c_nes, c_eqs, b_gcd, rng_z (b := 1 + nm) _ (by omega) (by omega)]
    refine WP.lcZI (fun i acc M => ∃ (l : List Int) (c : Int × Int), acc = l.map .int ∧ M = [cupM c] ∧ (l.length : Int) = i ∧ ∀ s ∈ l, 0 ≤ s ∧ s < slen sk) (by omega) ⟨[], c, rfl, rfl, rfl, by simp⟩ ?_ ?_
    · rintro i acc M hi0 hi1 ⟨l, c, rfl, rfl, hll, hl2⟩
      simp only [↓WP_ok, ↓WPO_some, ↓WPB_t, ↓WPB_f, ↓WP_end, ↓pst_q, ↓pso_q, ↓pth_p, ↓WPO_map, ↓wz_var, ↓wz_int, ↓wz_bl, ↓wz_non, ↓wz_str, ↓wz_gi, ↓wz_bin, ↓wz_neg, ↓wz_cmp, ↓wz_cmp2, ↓wz_conj, ↓wz_disj, ↓wz_not, ↓wz_ite, ↓wz_tup, ↓wz_lst, ↓wz_ix, ↓wz_rev, ↓wz_nop, ↓wz_call, ↓wz_blt, ↓wz_isi, ↓wz_lc, ↓wz_lcO, ↓wz_rng, ↓wz_zip, ↓wz_lrg, ↓wz_sst, ↓wz_enm, ↓wz_get, ↓wz_get2, ↓wz_esn, ↓wz_esc, ↓wz_pn, ↓wz_pc, ↓wz_mv, ↓wz_ml, ↓wz_mk, ↓wz_mt, ↓wz_asg1, ↓wz_asgt, ↓wz_new, ↓wz_par, ↓wz_put, ↓wz_app, ↓wz_aug, ↓wz_ex, ↓wz_ifs, ↓wz_fors, ↓wz_forO, ↓wz_whl, ↓wz_ret, ↓wz_retL, ↓wz_ret0, ↓wz_brk, ↓wz_cont, ↓wz_pass, ↓wz_ssn, ↓wz_ssc, ↓wz_fb, ↓wz_lcb, negD_i, notD_b, revD_l, revD_t, isiD_d, layL_cup, layL_l, sA_nil, sA_cons, nxt_nx, nxt_rt, nxt_bk, nxt_ct, view_d, o_add, o_sub, c_lt, c_le, c_gt, c_ge, c_eqi, c_nei, ix_t0, ix_t1, ix_t2, ix_l0, ix_l1, ix_c0, ix_c1, put_c0, put_c1, b_int, b_abs, b_lenT, b_lenL, b_tupL, b_tupT, b_lstL, b_lstT, b_lstS, b_min2, b_max2, someD_d, lcM_its, lcM_l, lcM_t, forM_its, forM_l, forM_t, WP_bind, guardR_t, bt_nm, bt_tp, bts_nil, bts_cons, wipe_nil, wipe_cons, tT0, tT1, tT2, tT3, tT4, tT5, tT6, tT7, tT8, tT9, tT10, tT11, tT12, tL0, tL1, tL2, tL3, tL4, tL5, tL6, tL7, tL8, tL9, tL10, tL11, tL12, tL13, tL14, tL15, tL16, opt_map_some, opt_bind_some, finF_d, finF_nx, List.getD_cons_zero, List.getD_cons_succ, List.set_cons_zero, List.set_cons_succ, List.map_cons, List.map_nil, List.length_cons, List.length_nil, List.cons_append, List.nil_append, List.replicate_succ, List.replicate_zero, Nat.reduceAdd, Nat.reduceSub, Nat.sub_self, ↓wz_lc2, ↓wz_lc2b, ↓wz_slJ, slF_i, slT_i, slB_i, slD_t, slD_l, lc2M_its, lc2M_l, lc2M_t, innL_its, innL_l, innL_t, isD_map, ↓wz_slF_int, ↓wz_slT_int, ↓wz_slB_int_int, ↓wz_slB_int_neg, ↓wz_slB_int_var, ↓wz_slB_int_bin, ↓wz_slB_int_ix, ↓wz_slF_neg, ↓wz_slT_neg, ↓wz_slB_neg_int, ↓wz_slB_neg_neg, ↓wz_slB_neg_var, ↓wz_slB_neg_bin, ↓wz_slB_neg_ix, ↓wz_slF_var, ↓wz_slT_var, ↓wz_slB_var_int, ↓wz_slB_var_neg, ↓wz_slB_var_var, ↓wz_slB_var_bin, ↓wz_slB_var_ix, ↓wz_slF_bin, ↓wz_slT_bin, ↓wz_slB_bin_int, ↓wz_slB_bin_neg, ↓wz_slB_bin_var, ↓wz_slB_bin_bin, ↓wz_slB_bin_ix, ↓wz_slF_ix, ↓wz_slT_ix, ↓wz_slB_ix_int, ↓wz_slB_ix_neg, ↓wz_slB_ix_var, ↓wz_slB_ix_bin, ↓wz_slB_ix_ix, ↓wz_slF_call, ↓wz_slT_call, ↓wz_slF_blt, ↓wz_slT_blt, ↓wz_lcn, ↓wz_lcc, ↓wz_forn, ↓wz_forc, consO_s, consO_n, forK_nx, forK_ct, forK_bk, forK_rt, c_isN, c_isnN, c_isT, c_isF, c_isnT, c_isnF, isNone_n, isNone_t, isNone_l, isNone_i, isNone_b, c_nel0, c_eql0, Bool.not_true, Bool.not_false, o_catL, o_catT, Nat.reduceLeDiff, ↓wz_mp, ↓wz_ms, layS_i, c_nes, c_eqs, b_gcd]
      refine WP.roll Kr (by decide) (by omega) (by omega) (fun v c hv0 hv1 => ?_)
      simp only [↓WP_ok, ↓WPO_some, ↓WPB_t, ↓WPB_f, ↓WP_end, ↓pst_q, ↓pso_q, ↓pth_p, ↓WPO_map, ↓wz_var, ↓wz_int, ↓wz_bl, ↓wz_non, ↓wz_str, ↓wz_gi, ↓wz_bin, ↓wz_neg, ↓wz_cmp, ↓wz_cmp2, ↓wz_conj, ↓wz_disj, ↓wz_not, ↓wz_ite, ↓wz_tup, ↓wz_lst, ↓wz_ix, ↓wz_rev, ↓wz_nop, ↓wz_call, ↓wz_blt, ↓wz_isi, ↓wz_lc, ↓wz_lcO, ↓wz_rng, ↓wz_zip, ↓wz_lrg, ↓wz_sst, ↓wz_enm, ↓wz_get, ↓wz_get2, ↓wz_esn, ↓wz_esc, ↓wz_pn, ↓wz_pc, ↓wz_mv, ↓wz_ml, ↓wz_mk, ↓wz_mt, ↓wz_asg1, ↓wz_asgt, ↓wz_new, ↓wz_par, ↓wz_put, ↓wz_app, ↓wz_aug, ↓wz_ex, ↓wz_ifs, ↓wz_fors, ↓wz_forO, ↓wz_whl, ↓wz_ret, ↓wz_retL, ↓wz_ret0, ↓wz_brk, ↓wz_cont, ↓wz_pass, ↓wz_ssn, ↓wz_ssc, ↓wz_fb, ↓wz_lcb, negD_i, notD_b, revD_l, revD_t, isiD_d, layL_cup, layL_l, sA_nil, sA_cons, nxt_nx, nxt_rt, nxt_bk, nxt_ct, view_d, o_add, o_sub, c_lt, c_le, c_gt, c_ge, c_eqi, c_nei, ix_t0, ix_t1, ix_t2, ix_l0, ix_l1, ix_c0, ix_c1, put_c0, put_c1, b_int, b_abs, b_lenT, b_lenL, b_tupL, b_tupT, b_lstL, b_lstT, b_lstS, b_min2, b_max2, someD_d, lcM_its, lcM_l, lcM_t, forM_its, forM_l, forM_t, WP_bind, guardR_t, bt_nm, bt_tp, bts_nil, bts_cons, wipe_nil, wipe_cons, tT0, tT1, tT2, tT3, tT4, tT5, tT6, tT7, tT8, tT9, tT10, tT11, tT12, tL0, tL1, tL2, tL3, tL4, tL5, tL6, tL7, tL8, tL9, tL10, tL11, tL12, tL13, tL14, tL15, tL16, opt_map_some, opt_bind_some, finF_d, finF_nx, List.getD_cons_zero, List.getD_cons_succ, List.set_cons_zero, List.set_cons_succ, List.map_cons, List.map_nil, List.length_cons, List.length_nil, List.cons_append, List.nil_append, List.replicate_succ, List.replicate_zero, Nat.reduceAdd, Nat.reduceSub, Nat.sub_self, ↓wz_lc2, ↓wz_lc2b, ↓wz_slJ, slF_i, slT_i, slB_i, slD_t, slD_l, lc2M_its, lc2M_l, lc2M_t, innL_its, innL_l, innL_t, isD_map, ↓wz_slF_int, ↓wz_slT_int, ↓wz_slB_int_int, ↓wz_slB_int_neg, ↓wz_slB_int_var, ↓wz_slB_int_bin, ↓wz_slB_int_ix, ↓wz_slF_neg, ↓wz_slT_neg, ↓wz_slB_neg_int, ↓wz_slB_neg_neg, ↓wz_slB_neg_var, ↓wz_slB_neg_bin, ↓wz_slB_neg_ix, ↓wz_slF_var, ↓wz_slT_var, ↓wz_slB_var_int, ↓wz_slB_var_neg, ↓wz_slB_var_var, ↓wz_slB_var_bin, ↓wz_slB_var_ix, ↓wz_slF_bin, ↓wz_slT_bin, ↓wz_slB_bin_int, ↓wz_slB_bin_neg, ↓wz_slB_bin_var, ↓wz_slB_bin_bin, ↓wz_slB_bin_ix, ↓wz_slF_ix, ↓wz_slT_ix, ↓wz_slB_ix_int, ↓wz_slB_ix_neg, ↓wz_slB_ix_var, ↓wz_slB_ix_bin, ↓wz_slB_ix_ix, ↓wz_slF_call, ↓wz_slT_call, ↓wz_slF_blt, ↓wz_slT_blt, ↓wz_lcn, ↓wz_lcc, ↓wz_forn, ↓wz_forc, consO_s, consO_n, forK_nx, forK_ct, forK_bk, forK_rt, c_isN, c_isnN, c_isT, c_isF, c_isnT, c_isnF, isNone_n, isNone_t, isNone_l, isNone_i, isNone_b, c_nel0, c_eql0, Bool.not_true, Bool.not_false, o_catL, o_catT, Nat.reduceLeDiff, ↓wz_mp, ↓wz_ms, layS_i, c_nes, c_eqs, b_gcd]
      refine ⟨l ++ [v], c, by rw [List.map_append]; rfl, rfl, by rw [List.length_append, List.length_cons, List.length_nil]; omega, fun s hs => ?_⟩
      rcases List.mem_append.mp hs with q | q
      · exact hl2 s q
      · have : s = v := by simpa using q
        omega
    rintro ys M ⟨l0, c, rfl, rfl, hl0, hl1⟩
    have hlot : Lot (slen sk) (once l0) := ⟨up_once l0, fun s hs => hl1 s (mem_once.mp hs)⟩
    have hne : once l0 ≠ [] := by
      intro hc
      match l0, hl0 with
      | [], hl0 => simp at hl0; omega
      | a :: l0, _ =>
        have : a ∈ once (a :: l0) := mem_once.mpr (by simp)
        rw [hc] at this
        simp at this
    simp only [↓WP_ok, ↓WPO_some, ↓WPB_t, ↓WPB_f, ↓WP_end, ↓pst_q, ↓pso_q, ↓pth_p, ↓WPO_map, ↓wz_var, ↓wz_int, ↓wz_bl, ↓wz_non, ↓wz_str, ↓wz_gi, ↓wz_bin, ↓wz_neg, ↓wz_cmp, ↓wz_cmp2, ↓wz_conj, ↓wz_disj, ↓wz_not, ↓wz_ite, ↓wz_tup, ↓wz_lst, ↓wz_ix, ↓wz_rev, ↓wz_nop, ↓wz_call, ↓wz_blt, ↓wz_isi, ↓wz_lc, ↓wz_lcO, ↓wz_rng, ↓wz_zip, ↓wz_lrg, ↓wz_sst, ↓wz_enm, ↓wz_get, ↓wz_get2, ↓wz_esn, ↓wz_esc, ↓wz_pn, ↓wz_pc, ↓wz_mv, ↓wz_ml, ↓wz_mk, ↓wz_mt, ↓wz_asg1, ↓wz_asgt, ↓wz_new, ↓wz_par, ↓wz_put, ↓wz_app, ↓wz_aug, ↓wz_ex, ↓wz_ifs, ↓wz_fors, ↓wz_forO, ↓wz_whl, ↓wz_ret, ↓wz_retL, ↓wz_ret0, ↓wz_brk, ↓wz_cont, ↓wz_pass, ↓wz_ssn, ↓wz_ssc, ↓wz_fb, ↓wz_lcb, negD_i, notD_b, revD_l, revD_t, isiD_d, layL_cup, layL_l, sA_nil, sA_cons, nxt_nx, nxt_rt, nxt_bk, nxt_ct, view_d, o_add, o_sub, c_lt, c_le, c_gt, c_ge, c_eqi, c_nei, ix_t0, ix_t1, ix_t2, ix_l0, ix_l1, ix_c0, ix_c1, put_c0, put_c1, b_int, b_abs, b_lenT, b_lenL, b_tupL, b_tupT, b_lstL, b_lstT, b_lstS, b_min2, b_max2, someD_d, lcM_its, lcM_l, lcM_t, forM_its, forM_l, forM_t, WP_bind, guardR_t, bt_nm, bt_tp, bts_nil, bts_cons, wipe_nil, wipe_cons, tT0, tT1, tT2, tT3, tT4, tT5, tT6, tT7, tT8, tT9, tT10, tT11, tT12, tL0, tL1, tL2, tL3, tL4, tL5, tL6, tL7, tL8, tL9, tL10, tL11, tL12, tL13, tL14, tL15, tL16, opt_map_some, opt_bind_some, finF_d, finF_nx, List.getD_cons_zero, List.getD_cons_succ, List.set_cons_zero, List.set_cons_succ, List.map_cons, List.map_nil, List.length_cons, List.length_nil, List.cons_append, List.nil_append, List.replicate_succ, List.replicate_zero, Nat.reduceAdd, Nat.reduceSub, Nat.sub_self, ↓wz_lc2, ↓wz_lc2b, ↓wz_slJ, slF_i, slT_i, slB_i, slD_t, slD_l, lc2M_its, lc2M_l, lc2M_t, innL_its, innL_l, innL_t, isD_map, ↓wz_slF_int, ↓wz_slT_int, ↓wz_slB_int_int, ↓wz_slB_int_neg, ↓wz_slB_int_var, ↓wz_slB_int_bin, ↓wz_slB_int_ix, ↓wz_slF_neg, ↓wz_slT_neg, ↓wz_slB_neg_int, ↓wz_slB_neg_neg, ↓wz_slB_neg_var, ↓wz_slB_neg_bin, ↓wz_slB_neg_ix, ↓wz_slF_var, ↓wz_slT_var, ↓wz_slB_var_int, ↓wz_slB_var_neg, ↓wz_slB_var_var, ↓wz_slB_var_bin, ↓wz_slB_var_ix, ↓wz_slF_bin, ↓wz_slT_bin, ↓wz_slB_bin_int, ↓wz_slB_bin_neg, ↓wz_slB_bin_var, ↓wz_slB_bin_bin, ↓wz_slB_bin_ix, ↓wz_slF_ix, ↓wz_slT_ix, ↓wz_slB_ix_int, ↓wz_slB_ix_neg, ↓wz_slB_ix_var, ↓wz_slB_ix_bin, ↓wz_slB_ix_ix, ↓wz_slF_call, ↓wz_slT_call, ↓wz_slF_blt, ↓wz_slT_blt, ↓wz_lcn, ↓wz_lcc, ↓wz_forn, ↓wz_forc, consO_s, consO_n, forK_nx, forK_ct, forK_bk, forK_rt, c_isN, c_isnN, c_isT, c_isF, c_isnT, c_isnF, isNone_n, isNone_t, isNone_l, isNone_i, isNone_b, c_nel0, c_eql0, Bool.not_true, Bool.not_false, o_catL, o_catT, Nat.reduceLeDiff, ↓wz_mp, ↓wz_ms, layS_i, c_nes, c_eqs, b_gcd, sst_l _ (show l0.length < 64 by omega)]
    generalize once l0 = l at hlot hne ⊢
    have hll := lot_len hlot (by omega)
    clear hl1 hl0
    refine WP.eq (heights_ev (l := l) (by decide) hs24 hlot ht0 ht1 _) ?_
    rw [hrow]
    simp only [↓WP_ok, ↓WPO_some, ↓WPB_t, ↓WPB_f, ↓WP_end, ↓pst_q, ↓pso_q, ↓pth_p, ↓WPO_map, ↓wz_var, ↓wz_int, ↓wz_bl, ↓wz_non, ↓wz_str, ↓wz_gi, ↓wz_bin, ↓wz_neg, ↓wz_cmp, ↓wz_cmp2, ↓wz_conj, ↓wz_disj, ↓wz_not, ↓wz_ite, ↓wz_tup, ↓wz_lst, ↓wz_ix, ↓wz_rev, ↓wz_nop, ↓wz_call, ↓wz_blt, ↓wz_isi, ↓wz_lc, ↓wz_lcO, ↓wz_rng, ↓wz_zip, ↓wz_lrg, ↓wz_sst, ↓wz_enm, ↓wz_get, ↓wz_get2, ↓wz_esn, ↓wz_esc, ↓wz_pn, ↓wz_pc, ↓wz_mv, ↓wz_ml, ↓wz_mk, ↓wz_mt, ↓wz_asg1, ↓wz_asgt, ↓wz_new, ↓wz_par, ↓wz_put, ↓wz_app, ↓wz_aug, ↓wz_ex, ↓wz_ifs, ↓wz_fors, ↓wz_forO, ↓wz_whl, ↓wz_ret, ↓wz_retL, ↓wz_ret0, ↓wz_brk, ↓wz_cont, ↓wz_pass, ↓wz_ssn, ↓wz_ssc, ↓wz_fb, ↓wz_lcb, negD_i, notD_b, revD_l, revD_t, isiD_d, layL_cup, layL_l, sA_nil, sA_cons, nxt_nx, nxt_rt, nxt_bk, nxt_ct, view_d, o_add, o_sub, c_lt, c_le, c_gt, c_ge, c_eqi, c_nei, ix_t0, ix_t1, ix_t2, ix_l0, ix_l1, ix_c0, ix_c1, put_c0, put_c1, b_int, b_abs, b_lenT, b_lenL, b_tupL, b_tupT, b_lstL, b_lstT, b_lstS, b_min2, b_max2, someD_d, lcM_its, lcM_l, lcM_t, forM_its, forM_l, forM_t, WP_bind, guardR_t, bt_nm, bt_tp, bts_nil, bts_cons, wipe_nil, wipe_cons, tT0, tT1, tT2, tT3, tT4, tT5, tT6, tT7, tT8, tT9, tT10, tT11, tT12, tL0, tL1, tL2, tL3, tL4, tL5, tL6, tL7, tL8, tL9, tL10, tL11, tL12, tL13, tL14, tL15, tL16, opt_map_some, opt_bind_some, finF_d, finF_nx, List.getD_cons_zero, List.getD_cons_succ, List.set_cons_zero, List.set_cons_succ, List.map_cons, List.map_nil, List.length_cons, List.length_nil, List.cons_append, List.nil_append, List.replicate_succ, List.replicate_zero, Nat.reduceAdd, Nat.reduceSub, Nat.sub_self, ↓wz_lc2, ↓wz_lc2b, ↓wz_slJ, slF_i, slT_i, slB_i, slD_t, slD_l, lc2M_its, lc2M_l, lc2M_t, innL_its, innL_l, innL_t, isD_map, ↓wz_slF_int, ↓wz_slT_int, ↓wz_slB_int_int, ↓wz_slB_int_neg, ↓wz_slB_int_var, ↓wz_slB_int_bin, ↓wz_slB_int_ix, ↓wz_slF_neg, ↓wz_slT_neg, ↓wz_slB_neg_int, ↓wz_slB_neg_neg, ↓wz_slB_neg_var, ↓wz_slB_neg_bin, ↓wz_slB_neg_ix, ↓wz_slF_var, ↓wz_slT_var, ↓wz_slB_var_int, ↓wz_slB_var_neg, ↓wz_slB_var_var, ↓wz_slB_var_bin, ↓wz_slB_var_ix, ↓wz_slF_bin, ↓wz_slT_bin, ↓wz_slB_bin_int, ↓wz_slB_bin_neg, ↓wz_slB_bin_var, ↓wz_slB_bin_bin, ↓wz_slB_bin_ix, ↓wz_slF_ix, ↓wz_slT_ix, ↓wz_slB_ix_int, ↓wz_slB_ix_neg, ↓wz_slB_ix_var, ↓wz_slB_ix_bin, ↓wz_slB_ix_ix, ↓wz_slF_call, ↓wz_slT_call, ↓wz_slF_blt, ↓wz_slT_blt, ↓wz_lcn, ↓wz_lcc, ↓wz_forn, ↓wz_forc, consO_s, consO_n, forK_nx, forK_ct, forK_bk, forK_rt, c_isN, c_isnN, c_isT, c_isF, c_isnT, c_isnF, isNone_n, isNone_t, isNone_l, isNone_i, isNone_b, c_nel0, c_eql0, Bool.not_true, Bool.not_false, o_catL, o_catT, Nat.reduceLeDiff, ↓wz_mp, ↓wz_ms, layS_i, c_nes, c_eqs, b_gcd]
    rw [List.map_map]
    refine WP.lcLI (fun l1 acc M => ∃ (ps : List (Int × Int)) (c : Int × Int), acc = (ps.map fun p => PyData.tuple [.int p.1, .int p.2]) ∧ M = [cupM c] ∧ ps.map (·.1) = l1 ∧ ∀ p ∈ ps, -90 ≤ p.2 ∧ p.2 ≤ 90 ∧ od sk step p ≤ 29) ⟨[], c, rfl, rfl, rfl, by simp⟩ ?_ ?_
    · rintro l1 s l2 acc M e ⟨ps, c, rfl, rfl, hf, hps⟩
      simp only [↓WP_ok, ↓WPO_some, ↓WPB_t, ↓WPB_f, ↓WP_end, ↓pst_q, ↓pso_q, ↓pth_p, ↓WPO_map, ↓wz_var, ↓wz_int, ↓wz_bl, ↓wz_non, ↓wz_str, ↓wz_gi, ↓wz_bin, ↓wz_neg, ↓wz_cmp, ↓wz_cmp2, ↓wz_conj, ↓wz_disj, ↓wz_not, ↓wz_ite, ↓wz_tup, ↓wz_lst, ↓wz_ix, ↓wz_rev, ↓wz_nop, ↓wz_call, ↓wz_blt, ↓wz_isi, ↓wz_lc, ↓wz_lcO, ↓wz_rng, ↓wz_zip, ↓wz_lrg, ↓wz_sst, ↓wz_enm, ↓wz_get, ↓wz_get2, ↓wz_esn, ↓wz_esc, ↓wz_pn, ↓wz_pc, ↓wz_mv, ↓wz_ml, ↓wz_mk, ↓wz_mt, ↓wz_asg1, ↓wz_asgt, ↓wz_new, ↓wz_par, ↓wz_put, ↓wz_app, ↓wz_aug, ↓wz_ex, ↓wz_ifs, ↓wz_fors, ↓wz_forO, ↓wz_whl, ↓wz_ret, ↓wz_retL, ↓wz_ret0, ↓wz_brk, ↓wz_cont, ↓wz_pass, ↓wz_ssn, ↓wz_ssc, ↓wz_fb, ↓wz_lcb, negD_i, notD_b, revD_l, revD_t, isiD_d, layL_cup, layL_l, sA_nil, sA_cons, nxt_nx, nxt_rt, nxt_bk, nxt_ct, view_d, o_add, o_sub, c_lt, c_le, c_gt, c_ge, c_eqi, c_nei, ix_t0, ix_t1, ix_t2, ix_l0, ix_l1, ix_c0, ix_c1, put_c0, put_c1, b_int, b_abs, b_lenT, b_lenL, b_tupL, b_tupT, b_lstL, b_lstT, b_lstS, b_min2, b_max2, someD_d, lcM_its, lcM_l, lcM_t, forM_its, forM_l, forM_t, WP_bind, guardR_t, bt_nm, bt_tp, bts_nil, bts_cons, wipe_nil, wipe_cons, tT0, tT1, tT2, tT3, tT4, tT5, tT6, tT7, tT8, tT9, tT10, tT11, tT12, tL0, tL1, tL2, tL3, tL4, tL5, tL6, tL7, tL8, tL9, tL10, tL11, tL12, tL13, tL14, tL15, tL16, opt_map_some, opt_bind_some, finF_d, finF_nx, List.getD_cons_zero, List.getD_cons_succ, List.set_cons_zero, List.set_cons_succ, List.map_cons, List.map_nil, List.length_cons, List.length_nil, List.cons_append, List.nil_append, List.replicate_succ, List.replicate_zero, Nat.reduceAdd, Nat.reduceSub, Nat.sub_self, ↓wz_lc2, ↓wz_lc2b, ↓wz_slJ, slF_i, slT_i, slB_i, slD_t, slD_l, lc2M_its, lc2M_l, lc2M_t, innL_its, innL_l, innL_t, isD_map, ↓wz_slF_int, ↓wz_slT_int, ↓wz_slB_int_int, ↓wz_slB_int_neg, ↓wz_slB_int_var, ↓wz_slB_int_bin, ↓wz_slB_int_ix, ↓wz_slF_neg, ↓wz_slT_neg, ↓wz_slB_neg_int, ↓wz_slB_neg_neg, ↓wz_slB_neg_var, ↓wz_slB_neg_bin, ↓wz_slB_neg_ix, ↓wz_slF_var, ↓wz_slT_var, ↓wz_slB_var_int, ↓wz_slB_var_neg, ↓wz_slB_var_var, ↓wz_slB_var_bin, ↓wz_slB_var_ix, ↓wz_slF_bin, ↓wz_slT_bin, ↓wz_slB_bin_int, ↓wz_slB_bin_neg, ↓wz_slB_bin_var, ↓wz_slB_bin_bin, ↓wz_slB_bin_ix, ↓wz_slF_ix, ↓wz_slT_ix, ↓wz_slB_ix_int, ↓wz_slB_ix_neg, ↓wz_slB_ix_var, ↓wz_slB_ix_bin, ↓wz_slB_ix_ix, ↓wz_slF_call, ↓wz_slT_call, ↓wz_slF_blt, ↓wz_slT_blt, ↓wz_lcn, ↓wz_lcc, ↓wz_forn, ↓wz_forc, consO_s, consO_n, forK_nx, forK_ct, forK_bk, forK_rt, c_isN, c_isnN, c_isT, c_isF, c_isnT, c_isnF, isNone_n, isNone_t, isNone_l, isNone_i, isNone_b, c_nel0, c_eql0, Bool.not_true, Bool.not_false, o_catL, o_catT, Nat.reduceLeDiff, ↓wz_mp, ↓wz_ms, layS_i, c_nes, c_eqs, b_gcd, Function.comp]
      refine WP.pick Kr rfl (by decide) (by decide) (by decide) (fun x c hx => ?_)
      obtain ⟨w, hw, rfl⟩ : ∃ w : Int, (0 < w ∧ w ≤ 30) ∧ x = .int w := by
        simp only [List.mem_cons, List.not_mem_nil, or_false] at hx
        rcases hx with rfl | rfl | rfl
        · exact ⟨1, by decide, rfl⟩
        · exact ⟨3, by decide, rfl⟩
        · exact ⟨30, by decide, rfl⟩
      simp only [↓WP_ok, ↓WPO_some, ↓WPB_t, ↓WPB_f, ↓WP_end, ↓pst_q, ↓pso_q, ↓pth_p, ↓WPO_map, ↓wz_var, ↓wz_int, ↓wz_bl, ↓wz_non, ↓wz_str, ↓wz_gi, ↓wz_bin, ↓wz_neg, ↓wz_cmp, ↓wz_cmp2, ↓wz_conj, ↓wz_disj, ↓wz_not, ↓wz_ite, ↓wz_tup, ↓wz_lst, ↓wz_ix, ↓wz_rev, ↓wz_nop, ↓wz_call, ↓wz_blt, ↓wz_isi, ↓wz_lc, ↓wz_lcO, ↓wz_rng, ↓wz_zip, ↓wz_lrg, ↓wz_sst, ↓wz_enm, ↓wz_get, ↓wz_get2, ↓wz_esn, ↓wz_esc, ↓wz_pn, ↓wz_pc, ↓wz_mv, ↓wz_ml, ↓wz_mk, ↓wz_mt, ↓wz_asg1, ↓wz_asgt, ↓wz_new, ↓wz_par, ↓wz_put, ↓wz_app, ↓wz_aug, ↓wz_ex, ↓wz_ifs, ↓wz_fors, ↓wz_forO, ↓wz_whl, ↓wz_ret, ↓wz_retL, ↓wz_ret0, ↓wz_brk, ↓wz_cont, ↓wz_pass, ↓wz_ssn, ↓wz_ssc, ↓wz_fb, ↓wz_lcb, negD_i, notD_b, revD_l, revD_t, isiD_d, layL_cup, layL_l, sA_nil, sA_cons, nxt_nx, nxt_rt, nxt_bk, nxt_ct, view_d, o_add, o_sub, c_lt, c_le, c_gt, c_ge, c_eqi, c_nei, ix_t0, ix_t1, ix_t2, ix_l0, ix_l1, ix_c0, ix_c1, put_c0, put_c1, b_int, b_abs, b_lenT, b_lenL, b_tupL, b_tupT, b_lstL, b_lstT, b_lstS, b_min2, b_max2, someD_d, lcM_its, lcM_l, lcM_t, forM_its, forM_l, forM_t, WP_bind, guardR_t, bt_nm, bt_tp, bts_nil, bts_cons, wipe_nil, wipe_cons, tT0, tT1, tT2, tT3, tT4, tT5, tT6, tT7, tT8, tT9, tT10, tT11, tT12, tL0, tL1, tL2, tL3, tL4, tL5, tL6, tL7, tL8, tL9, tL10, tL11, tL12, tL13, tL14, tL15, tL16, opt_map_some, opt_bind_some, finF_d, finF_nx, List.getD_cons_zero, List.getD_cons_succ, List.set_cons_zero, List.set_cons_succ, List.map_cons, List.map_nil, List.length_cons, List.length_nil, List.cons_append, List.nil_append, List.replicate_succ, List.replicate_zero, Nat.reduceAdd, Nat.reduceSub, Nat.sub_self, ↓wz_lc2, ↓wz_lc2b, ↓wz_slJ, slF_i, slT_i, slB_i, slD_t, slD_l, lc2M_its, lc2M_l, lc2M_t, innL_its, innL_l, innL_t, isD_map, ↓wz_slF_int, ↓wz_slT_int, ↓wz_slB_int_int, ↓wz_slB_int_neg, ↓wz_slB_int_var, ↓wz_slB_int_bin, ↓wz_slB_int_ix, ↓wz_slF_neg, ↓wz_slT_neg, ↓wz_slB_neg_int, ↓wz_slB_neg_neg, ↓wz_slB_neg_var, ↓wz_slB_neg_bin, ↓wz_slB_neg_ix, ↓wz_slF_var, ↓wz_slT_var, ↓wz_slB_var_int, ↓wz_slB_var_neg, ↓wz_slB_var_var, ↓wz_slB_var_bin, ↓wz_slB_var_ix, ↓wz_slF_bin, ↓wz_slT_bin, ↓wz_slB_bin_int, ↓wz_slB_bin_neg, ↓wz_slB_bin_var, ↓wz_slB_bin_bin, ↓wz_slB_bin_ix, ↓wz_slF_ix, ↓wz_slT_ix, ↓wz_slB_ix_int, ↓wz_slB_ix_neg, ↓wz_slB_ix_var, ↓wz_slB_ix_bin, ↓wz_slB_ix_ix, ↓wz_slF_call, ↓wz_slT_call, ↓wz_slF_blt, ↓wz_slT_blt, ↓wz_lcn, ↓wz_lcc, ↓wz_forn, ↓wz_forc, consO_s, consO_n, forK_nx, forK_ct, forK_bk, forK_rt, c_isN, c_isnN, c_isT, c_isF, c_isnT, c_isnF, isNone_n, isNone_t, isNone_l, isNone_i, isNone_b, c_nel0, c_eql0, Bool.not_true, Bool.not_false, o_catL, o_catT, Nat.reduceLeDiff, ↓wz_mp, ↓wz_ms, layS_i, c_nes, c_eqs, b_gcd]
      refine WP.roll Kr (by decide) (by omega) (by omega) (fun v c hv0 hv1 => ?_)
      simp only [↓WP_ok, ↓WPO_some, ↓WPB_t, ↓WPB_f, ↓WP_end, ↓pst_q, ↓pso_q, ↓pth_p, ↓WPO_map, ↓wz_var, ↓wz_int, ↓wz_bl, ↓wz_non, ↓wz_str, ↓wz_gi, ↓wz_bin, ↓wz_neg, ↓wz_cmp, ↓wz_cmp2, ↓wz_conj, ↓wz_disj, ↓wz_not, ↓wz_ite, ↓wz_tup, ↓wz_lst, ↓wz_ix, ↓wz_rev, ↓wz_nop, ↓wz_call, ↓wz_blt, ↓wz_isi, ↓wz_lc, ↓wz_lcO, ↓wz_rng, ↓wz_zip, ↓wz_lrg, ↓wz_sst, ↓wz_enm, ↓wz_get, ↓wz_get2, ↓wz_esn, ↓wz_esc, ↓wz_pn, ↓wz_pc, ↓wz_mv, ↓wz_ml, ↓wz_mk, ↓wz_mt, ↓wz_asg1, ↓wz_asgt, ↓wz_new, ↓wz_par, ↓wz_put, ↓wz_app, ↓wz_aug, ↓wz_ex, ↓wz_ifs, ↓wz_fors, ↓wz_forO, ↓wz_whl, ↓wz_ret, ↓wz_retL, ↓wz_ret0, ↓wz_brk, ↓wz_cont, ↓wz_pass, ↓wz_ssn, ↓wz_ssc, ↓wz_fb, ↓wz_lcb, negD_i, notD_b, revD_l, revD_t, isiD_d, layL_cup, layL_l, sA_nil, sA_cons, nxt_nx, nxt_rt, nxt_bk, nxt_ct, view_d, o_add, o_sub, c_lt, c_le, c_gt, c_ge, c_eqi, c_nei, ix_t0, ix_t1, ix_t2, ix_l0, ix_l1, ix_c0, ix_c1, put_c0, put_c1, b_int, b_abs, b_lenT, b_lenL, b_tupL, b_tupT, b_lstL, b_lstT, b_lstS, b_min2, b_max2, someD_d, lcM_its, lcM_l, lcM_t, forM_its, forM_l, forM_t, WP_bind, guardR_t, bt_nm, bt_tp, bts_nil, bts_cons, wipe_nil, wipe_cons, tT0, tT1, tT2, tT3, tT4, tT5, tT6, tT7, tT8, tT9, tT10, tT11, tT12, tL0, tL1, tL2, tL3, tL4, tL5, tL6, tL7, tL8, tL9, tL10, tL11, tL12, tL13, tL14, tL15, tL16, opt_map_some, opt_bind_some, finF_d, finF_nx, List.getD_cons_zero, List.getD_cons_succ, List.set_cons_zero, List.set_cons_succ, List.map_cons, List.map_nil, List.length_cons, List.length_nil, List.cons_append, List.nil_append, List.replicate_succ, List.replicate_zero, Nat.reduceAdd, Nat.reduceSub, Nat.sub_self, ↓wz_lc2, ↓wz_lc2b, ↓wz_slJ, slF_i, slT_i, slB_i, slD_t, slD_l, lc2M_its, lc2M_l, lc2M_t, innL_its, innL_l, innL_t, isD_map, ↓wz_slF_int, ↓wz_slT_int, ↓wz_slB_int_int, ↓wz_slB_int_neg, ↓wz_slB_int_var, ↓wz_slB_int_bin, ↓wz_slB_int_ix, ↓wz_slF_neg, ↓wz_slT_neg, ↓wz_slB_neg_int, ↓wz_slB_neg_neg, ↓wz_slB_neg_var, ↓wz_slB_neg_bin, ↓wz_slB_neg_ix, ↓wz_slF_var, ↓wz_slT_var, ↓wz_slB_var_int, ↓wz_slB_var_neg, ↓wz_slB_var_var, ↓wz_slB_var_bin, ↓wz_slB_var_ix, ↓wz_slF_bin, ↓wz_slT_bin, ↓wz_slB_bin_int, ↓wz_slB_bin_neg, ↓wz_slB_bin_var, ↓wz_slB_bin_bin, ↓wz_slB_bin_ix, ↓wz_slF_ix, ↓wz_slT_ix, ↓wz_slB_ix_int, ↓wz_slB_ix_neg, ↓wz_slB_ix_var, ↓wz_slB_ix_bin, ↓wz_slB_ix_ix, ↓wz_slF_call, ↓wz_slT_call, ↓wz_slF_blt, ↓wz_slT_blt, ↓wz_lcn, ↓wz_lcc, ↓wz_forn, ↓wz_forc, consO_s, consO_n, forK_nx, forK_ct, forK_bk, forK_rt, c_isN, c_isnN, c_isT, c_isF, c_isnT, c_isnF, isNone_n, isNone_t, isNone_l, isNone_i, isNone_b, c_nel0, c_eql0, Bool.not_true, Bool.not_false, o_catL, o_catT, Nat.reduceLeDiff, ↓wz_mp, ↓wz_ms, layS_i, c_nes, c_eqs, b_gcd]
      have hi := ht_in (plc sk s + step)
      refine ⟨ps ++ [(s, if (if ht (plc sk s + step) + v < 90 then ht (plc sk s + step) + v else 90) > -90 then (if ht (plc sk s + step) + v < 90 then ht (plc sk s + step) + v else 90) else -90)], c, by rw [List.map_append]; rfl, rfl, by rw [List.map_append, hf]; rfl, fun p hp => ?_⟩
      rcases List.mem_append.mp hp with q | q
      · exact hps p q
      · have : p = (s, if (if ht (plc sk s + step) + v < 90 then ht (plc sk s + step) + v else 90) > -90 then (if ht (plc sk s + step) + v < 90 then ht (plc sk s + step) + v else 90) else -90) := by simpa using q
        subst this
        unfold od
        dsimp only
        generalize ht (plc sk s + step) = z at hi ⊢
        refine ⟨?_, ?_, ?_⟩ <;> split <;> (try split) <;> (try split) <;> omega
    rintro ys M ⟨ps, c, rfl, rfl, hf, hps⟩
    have hS : Seen sk ps := ⟨by rw [hf]; exact hlot, by rintro rfl; exact hne hf.symm, fun p hp => ⟨(hps p hp).1, (hps p hp).2.1⟩⟩
    have hpl : ps.length = l.length := by rw [← hf, List.length_map]
    have hlow : offF sk ps step ≤ 29 := (off_le hS.ne).mpr fun p hp => (hps p hp).2.2
    clear hps
    obtain ⟨m, j, em, hj0, hj1, hjm, hall, hfst⟩ := least_at (offF sk ps)
    have hm0 : 0 ≤ m := by rw [← hjm]; exact off_nn hS.ne j
    have hm1 : m ≤ 29 := Int.le_trans (hall step ht0 ht1) hlow
    have esd : PyData.tuple (ps.map fun p => .tuple [.int p.1, .int p.2]) = seenD ps := rfl
    simp only [↓WP_ok, ↓WPO_some, ↓WPB_t, ↓WPB_f, ↓WP_end, ↓pst_q, ↓pso_q, ↓pth_p, ↓WPO_map, ↓wz_var, ↓wz_int, ↓wz_bl, ↓wz_non, ↓wz_str, ↓wz_gi, ↓wz_bin, ↓wz_neg, ↓wz_cmp, ↓wz_cmp2, ↓wz_conj, ↓wz_disj, ↓wz_not, ↓wz_ite, ↓wz_tup, ↓wz_lst, ↓wz_ix, ↓wz_rev, ↓wz_nop, ↓wz_call, ↓wz_blt, ↓wz_isi, ↓wz_lc, ↓wz_lcO, ↓wz_rng, ↓wz_zip, ↓wz_lrg, ↓wz_sst, ↓wz_enm, ↓wz_get, ↓wz_get2, ↓wz_esn, ↓wz_esc, ↓wz_pn, ↓wz_pc, ↓wz_mv, ↓wz_ml, ↓wz_mk, ↓wz_mt, ↓wz_asg1, ↓wz_asgt, ↓wz_new, ↓wz_par, ↓wz_put, ↓wz_app, ↓wz_aug, ↓wz_ex, ↓wz_ifs, ↓wz_fors, ↓wz_forO, ↓wz_whl, ↓wz_ret, ↓wz_retL, ↓wz_ret0, ↓wz_brk, ↓wz_cont, ↓wz_pass, ↓wz_ssn, ↓wz_ssc, ↓wz_fb, ↓wz_lcb, negD_i, notD_b, revD_l, revD_t, isiD_d, layL_cup, layL_l, sA_nil, sA_cons, nxt_nx, nxt_rt, nxt_bk, nxt_ct, view_d, o_add, o_sub, c_lt, c_le, c_gt, c_ge, c_eqi, c_nei, ix_t0, ix_t1, ix_t2, ix_l0, ix_l1, ix_c0, ix_c1, put_c0, put_c1, b_int, b_abs, b_lenT, b_lenL, b_tupL, b_tupT, b_lstL, b_lstT, b_lstS, b_min2, b_max2, someD_d, lcM_its, lcM_l, lcM_t, forM_its, forM_l, forM_t, WP_bind, guardR_t, bt_nm, bt_tp, bts_nil, bts_cons, wipe_nil, wipe_cons, tT0, tT1, tT2, tT3, tT4, tT5, tT6, tT7, tT8, tT9, tT10, tT11, tT12, tL0, tL1, tL2, tL3, tL4, tL5, tL6, tL7, tL8, tL9, tL10, tL11, tL12, tL13, tL14, tL15, tL16, opt_map_some, opt_bind_some, finF_d, finF_nx, List.getD_cons_zero, List.getD_cons_succ, List.set_cons_zero, List.set_cons_succ, List.map_cons, List.map_nil, List.length_cons, List.length_nil, List.cons_append, List.nil_append, List.replicate_succ, List.replicate_zero, Nat.reduceAdd, Nat.reduceSub, Nat.sub_self, ↓wz_lc2, ↓wz_lc2b, ↓wz_slJ, slF_i, slT_i, slB_i, slD_t, slD_l, lc2M_its, lc2M_l, lc2M_t, innL_its, innL_l, innL_t, isD_map, ↓wz_slF_int, ↓wz_slT_int, ↓wz_slB_int_int, ↓wz_slB_int_neg, ↓wz_slB_int_var, ↓wz_slB_int_bin, ↓wz_slB_int_ix, ↓wz_slF_neg, ↓wz_slT_neg, ↓wz_slB_neg_int, ↓wz_slB_neg_neg, ↓wz_slB_neg_var, ↓wz_slB_neg_bin, ↓wz_slB_neg_ix, ↓wz_slF_var, ↓wz_slT_var, ↓wz_slB_var_int, ↓wz_slB_var_neg, ↓wz_slB_var_var, ↓wz_slB_var_bin, ↓wz_slB_var_ix, ↓wz_slF_bin, ↓wz_slT_bin, ↓wz_slB_bin_int, ↓wz_slB_bin_neg, ↓wz_slB_bin_var, ↓wz_slB_bin_bin, ↓wz_slB_bin_ix, ↓wz_slF_ix, ↓wz_slT_ix, ↓wz_slB_ix_int, ↓wz_slB_ix_neg, ↓wz_slB_ix_var, ↓wz_slB_ix_bin, ↓wz_slB_ix_ix, ↓wz_slF_call, ↓wz_slT_call, ↓wz_slF_blt, ↓wz_slT_blt, ↓wz_lcn, ↓wz_lcc, ↓wz_forn, ↓wz_forc, consO_s, consO_n, forK_nx, forK_ct, forK_bk, forK_rt, c_isN, c_isnN, c_isT, c_isF, c_isnT, c_isnF, isNone_n, isNone_t, isNone_l, isNone_i, isNone_b, c_nel0, c_eql0, Bool.not_true, Bool.not_false, o_catL, o_catT, Nat.reduceLeDiff, ↓wz_mp, ↓wz_ms, layS_i, c_nes, c_eqs, b_gcd, r360]
    refine WP.lcZ (fun t => .int (offF sk ps t)) (fun t ht' => ?_) ?_
    · simp only [↓WP_ok, ↓WPO_some, ↓WPB_t, ↓WPB_f, ↓WP_end, ↓pst_q, ↓pso_q, ↓pth_p, ↓WPO_map, ↓wz_var, ↓wz_int, ↓wz_bl, ↓wz_non, ↓wz_str, ↓wz_gi, ↓wz_bin, ↓wz_neg, ↓wz_cmp, ↓wz_cmp2, ↓wz_conj, ↓wz_disj, ↓wz_not, ↓wz_ite, ↓wz_tup, ↓wz_lst, ↓wz_ix, ↓wz_rev, ↓wz_nop, ↓wz_call, ↓wz_blt, ↓wz_isi, ↓wz_lc, ↓wz_lcO, ↓wz_rng, ↓wz_zip, ↓wz_lrg, ↓wz_sst, ↓wz_enm, ↓wz_get, ↓wz_get2, ↓wz_esn, ↓wz_esc, ↓wz_pn, ↓wz_pc, ↓wz_mv, ↓wz_ml, ↓wz_mk, ↓wz_mt, ↓wz_asg1, ↓wz_asgt, ↓wz_new, ↓wz_par, ↓wz_put, ↓wz_app, ↓wz_aug, ↓wz_ex, ↓wz_ifs, ↓wz_fors, ↓wz_forO, ↓wz_whl, ↓wz_ret, ↓wz_retL, ↓wz_ret0, ↓wz_brk, ↓wz_cont, ↓wz_pass, ↓wz_ssn, ↓wz_ssc, ↓wz_fb, ↓wz_lcb, negD_i, notD_b, revD_l, revD_t, isiD_d, layL_cup, layL_l, sA_nil, sA_cons, nxt_nx, nxt_rt, nxt_bk, nxt_ct, view_d, o_add, o_sub, c_lt, c_le, c_gt, c_ge, c_eqi, c_nei, ix_t0, ix_t1, ix_t2, ix_l0, ix_l1, ix_c0, ix_c1, put_c0, put_c1, b_int, b_abs, b_lenT, b_lenL, b_tupL, b_tupT, b_lstL, b_lstT, b_lstS, b_min2, b_max2, someD_d, lcM_its, lcM_l, lcM_t, forM_its, forM_l, forM_t, WP_bind, guardR_t, bt_nm, bt_tp, bts_nil, bts_cons, wipe_nil, wipe_cons, tT0, tT1, tT2, tT3, tT4, tT5, tT6, tT7, tT8, tT9, tT10, tT11, tT12, tL0, tL1, tL2, tL3, tL4, tL5, tL6, tL7, tL8, tL9, tL10, tL11, tL12, tL13, tL14, tL15, tL16, opt_map_some, opt_bind_some, finF_d, finF_nx, List.getD_cons_zero, List.getD_cons_succ, List.set_cons_zero, List.set_cons_succ, List.map_cons, List.map_nil, List.length_cons, List.length_nil, List.cons_append, List.nil_append, List.replicate_succ, List.replicate_zero, Nat.reduceAdd, Nat.reduceSub, Nat.sub_self, ↓wz_lc2, ↓wz_lc2b, ↓wz_slJ, slF_i, slT_i, slB_i, slD_t, slD_l, lc2M_its, lc2M_l, lc2M_t, innL_its, innL_l, innL_t, isD_map, ↓wz_slF_int, ↓wz_slT_int, ↓wz_slB_int_int, ↓wz_slB_int_neg, ↓wz_slB_int_var, ↓wz_slB_int_bin, ↓wz_slB_int_ix, ↓wz_slF_neg, ↓wz_slT_neg, ↓wz_slB_neg_int, ↓wz_slB_neg_neg, ↓wz_slB_neg_var, ↓wz_slB_neg_bin, ↓wz_slB_neg_ix, ↓wz_slF_var, ↓wz_slT_var, ↓wz_slB_var_int, ↓wz_slB_var_neg, ↓wz_slB_var_var, ↓wz_slB_var_bin, ↓wz_slB_var_ix, ↓wz_slF_bin, ↓wz_slT_bin, ↓wz_slB_bin_int, ↓wz_slB_bin_neg, ↓wz_slB_bin_var, ↓wz_slB_bin_bin, ↓wz_slB_bin_ix, ↓wz_slF_ix, ↓wz_slT_ix, ↓wz_slB_ix_int, ↓wz_slB_ix_neg, ↓wz_slB_ix_var, ↓wz_slB_ix_bin, ↓wz_slB_ix_ix, ↓wz_slF_call, ↓wz_slT_call, ↓wz_slF_blt, ↓wz_slT_blt, ↓wz_lcn, ↓wz_lcc, ↓wz_forn, ↓wz_forc, consO_s, consO_n, forK_nx, forK_ct, forK_bk, forK_rt, c_isN, c_isnN, c_isT, c_isF, c_isnT, c_isnF, isNone_n, isNone_t, isNone_l, isNone_i, isNone_b, c_nel0, c_eql0, Bool.not_true, Bool.not_false, o_catL, o_catT, Nat.reduceLeDiff, ↓wz_mp, ↓wz_ms, layS_i, c_nes, c_eqs, b_gcd]
      rw [List.map_map]
      refine WP.lcA (fun q => .int (od sk t q)) (fun q hq => ?_) ?_
      · have := hS.ok hq
        simp only [↓WP_ok, ↓WPO_some, ↓WPB_t, ↓WPB_f, ↓WP_end, ↓pst_q, ↓pso_q, ↓pth_p, ↓WPO_map, ↓wz_var, ↓wz_int, ↓wz_bl, ↓wz_non, ↓wz_str, ↓wz_gi, ↓wz_bin, ↓wz_neg, ↓wz_cmp, ↓wz_cmp2, ↓wz_conj, ↓wz_disj, ↓wz_not, ↓wz_ite, ↓wz_tup, ↓wz_lst, ↓wz_ix, ↓wz_rev, ↓wz_nop, ↓wz_call, ↓wz_blt, ↓wz_isi, ↓wz_lc, ↓wz_lcO, ↓wz_rng, ↓wz_zip, ↓wz_lrg, ↓wz_sst, ↓wz_enm, ↓wz_get, ↓wz_get2, ↓wz_esn, ↓wz_esc, ↓wz_pn, ↓wz_pc, ↓wz_mv, ↓wz_ml, ↓wz_mk, ↓wz_mt, ↓wz_asg1, ↓wz_asgt, ↓wz_new, ↓wz_par, ↓wz_put, ↓wz_app, ↓wz_aug, ↓wz_ex, ↓wz_ifs, ↓wz_fors, ↓wz_forO, ↓wz_whl, ↓wz_ret, ↓wz_retL, ↓wz_ret0, ↓wz_brk, ↓wz_cont, ↓wz_pass, ↓wz_ssn, ↓wz_ssc, ↓wz_fb, ↓wz_lcb, negD_i, notD_b, revD_l, revD_t, isiD_d, layL_cup, layL_l, sA_nil, sA_cons, nxt_nx, nxt_rt, nxt_bk, nxt_ct, view_d, o_add, o_sub, c_lt, c_le, c_gt, c_ge, c_eqi, c_nei, ix_t0, ix_t1, ix_t2, ix_l0, ix_l1, ix_c0, ix_c1, put_c0, put_c1, b_int, b_abs, b_lenT, b_lenL, b_tupL, b_tupT, b_lstL, b_lstT, b_lstS, b_min2, b_max2, someD_d, lcM_its, lcM_l, lcM_t, forM_its, forM_l, forM_t, WP_bind, guardR_t, bt_nm, bt_tp, bts_nil, bts_cons, wipe_nil, wipe_cons, tT0, tT1, tT2, tT3, tT4, tT5, tT6, tT7, tT8, tT9, tT10, tT11, tT12, tL0, tL1, tL2, tL3, tL4, tL5, tL6, tL7, tL8, tL9, tL10, tL11, tL12, tL13, tL14, tL15, tL16, opt_map_some, opt_bind_some, finF_d, finF_nx, List.getD_cons_zero, List.getD_cons_succ, List.set_cons_zero, List.set_cons_succ, List.map_cons, List.map_nil, List.length_cons, List.length_nil, List.cons_append, List.nil_append, List.replicate_succ, List.replicate_zero, Nat.reduceAdd, Nat.reduceSub, Nat.sub_self, ↓wz_lc2, ↓wz_lc2b, ↓wz_slJ, slF_i, slT_i, slB_i, slD_t, slD_l, lc2M_its, lc2M_l, lc2M_t, innL_its, innL_l, innL_t, isD_map, ↓wz_slF_int, ↓wz_slT_int, ↓wz_slB_int_int, ↓wz_slB_int_neg, ↓wz_slB_int_var, ↓wz_slB_int_bin, ↓wz_slB_int_ix, ↓wz_slF_neg, ↓wz_slT_neg, ↓wz_slB_neg_int, ↓wz_slB_neg_neg, ↓wz_slB_neg_var, ↓wz_slB_neg_bin, ↓wz_slB_neg_ix, ↓wz_slF_var, ↓wz_slT_var, ↓wz_slB_var_int, ↓wz_slB_var_neg, ↓wz_slB_var_var, ↓wz_slB_var_bin, ↓wz_slB_var_ix, ↓wz_slF_bin, ↓wz_slT_bin, ↓wz_slB_bin_int, ↓wz_slB_bin_neg, ↓wz_slB_bin_var, ↓wz_slB_bin_bin, ↓wz_slB_bin_ix, ↓wz_slF_ix, ↓wz_slT_ix, ↓wz_slB_ix_int, ↓wz_slB_ix_neg, ↓wz_slB_ix_var, ↓wz_slB_ix_bin, ↓wz_slB_ix_ix, ↓wz_slF_call, ↓wz_slT_call, ↓wz_slF_blt, ↓wz_slT_blt, ↓wz_lcn, ↓wz_lcc, ↓wz_forn, ↓wz_forc, consO_s, consO_n, forK_nx, forK_ct, forK_bk, forK_rt, c_isN, c_isnN, c_isT, c_isF, c_isnT, c_isnF, isNone_n, isNone_t, isNone_l, isNone_i, isNone_b, c_nel0, c_eql0, Bool.not_true, Bool.not_false, o_catL, o_catT, Nat.reduceLeDiff, ↓wz_mp, ↓wz_ms, layS_i, c_nes, c_eqs, b_gcd, Function.comp]
        refine WP.eq (law_height_ev (by decide) this.1 this.2 t _) ?_
        simp only [↓WP_ok, ↓WPO_some, ↓WPB_t, ↓WPB_f, ↓WP_end, ↓pst_q, ↓pso_q, ↓pth_p, ↓WPO_map, ↓wz_var, ↓wz_int, ↓wz_bl, ↓wz_non, ↓wz_str, ↓wz_gi, ↓wz_bin, ↓wz_neg, ↓wz_cmp, ↓wz_cmp2, ↓wz_conj, ↓wz_disj, ↓wz_not, ↓wz_ite, ↓wz_tup, ↓wz_lst, ↓wz_ix, ↓wz_rev, ↓wz_nop, ↓wz_call, ↓wz_blt, ↓wz_isi, ↓wz_lc, ↓wz_lcO, ↓wz_rng, ↓wz_zip, ↓wz_lrg, ↓wz_sst, ↓wz_enm, ↓wz_get, ↓wz_get2, ↓wz_esn, ↓wz_esc, ↓wz_pn, ↓wz_pc, ↓wz_mv, ↓wz_ml, ↓wz_mk, ↓wz_mt, ↓wz_asg1, ↓wz_asgt, ↓wz_new, ↓wz_par, ↓wz_put, ↓wz_app, ↓wz_aug, ↓wz_ex, ↓wz_ifs, ↓wz_fors, ↓wz_forO, ↓wz_whl, ↓wz_ret, ↓wz_retL, ↓wz_ret0, ↓wz_brk, ↓wz_cont, ↓wz_pass, ↓wz_ssn, ↓wz_ssc, ↓wz_fb, ↓wz_lcb, negD_i, notD_b, revD_l, revD_t, isiD_d, layL_cup, layL_l, sA_nil, sA_cons, nxt_nx, nxt_rt, nxt_bk, nxt_ct, view_d, o_add, o_sub, c_lt, c_le, c_gt, c_ge, c_eqi, c_nei, ix_t0, ix_t1, ix_t2, ix_l0, ix_l1, ix_c0, ix_c1, put_c0, put_c1, b_int, b_abs, b_lenT, b_lenL, b_tupL, b_tupT, b_lstL, b_lstT, b_lstS, b_min2, b_max2, someD_d, lcM_its, lcM_l, lcM_t, forM_its, forM_l, forM_t, WP_bind, guardR_t, bt_nm, bt_tp, bts_nil, bts_cons, wipe_nil, wipe_cons, tT0, tT1, tT2, tT3, tT4, tT5, tT6, tT7, tT8, tT9, tT10, tT11, tT12, tL0, tL1, tL2, tL3, tL4, tL5, tL6, tL7, tL8, tL9, tL10, tL11, tL12, tL13, tL14, tL15, tL16, opt_map_some, opt_bind_some, finF_d, finF_nx, List.getD_cons_zero, List.getD_cons_succ, List.set_cons_zero, List.set_cons_succ, List.map_cons, List.map_nil, List.length_cons, List.length_nil, List.cons_append, List.nil_append, List.replicate_succ, List.replicate_zero, Nat.reduceAdd, Nat.reduceSub, Nat.sub_self, ↓wz_lc2, ↓wz_lc2b, ↓wz_slJ, slF_i, slT_i, slB_i, slD_t, slD_l, lc2M_its, lc2M_l, lc2M_t, innL_its, innL_l, innL_t, isD_map, ↓wz_slF_int, ↓wz_slT_int, ↓wz_slB_int_int, ↓wz_slB_int_neg, ↓wz_slB_int_var, ↓wz_slB_int_bin, ↓wz_slB_int_ix, ↓wz_slF_neg, ↓wz_slT_neg, ↓wz_slB_neg_int, ↓wz_slB_neg_neg, ↓wz_slB_neg_var, ↓wz_slB_neg_bin, ↓wz_slB_neg_ix, ↓wz_slF_var, ↓wz_slT_var, ↓wz_slB_var_int, ↓wz_slB_var_neg, ↓wz_slB_var_var, ↓wz_slB_var_bin, ↓wz_slB_var_ix, ↓wz_slF_bin, ↓wz_slT_bin, ↓wz_slB_bin_int, ↓wz_slB_bin_neg, ↓wz_slB_bin_var, ↓wz_slB_bin_bin, ↓wz_slB_bin_ix, ↓wz_slF_ix, ↓wz_slT_ix, ↓wz_slB_ix_int, ↓wz_slB_ix_neg, ↓wz_slB_ix_var, ↓wz_slB_ix_bin, ↓wz_slB_ix_ix, ↓wz_slF_call, ↓wz_slT_call, ↓wz_slF_blt, ↓wz_slT_blt, ↓wz_lcn, ↓wz_lcc, ↓wz_forn, ↓wz_forc, consO_s, consO_n, forK_nx, forK_ct, forK_bk, forK_rt, c_isN, c_isnN, c_isT, c_isF, c_isnT, c_isnF, isNone_n, isNone_t, isNone_l, isNone_i, isNone_b, c_nel0, c_eql0, Bool.not_true, Bool.not_false, o_catL, o_catT, Nat.reduceLeDiff, ↓wz_mp, ↓wz_ms, layS_i, c_nes, c_eqs, b_gcd]
        exact ⟨rfl, by trivial⟩
      obtain ⟨p, r, rfl⟩ := List.exists_cons_of_ne_nil hS.ne
      have bm := fun M => b_max (od sk t p) (r.map (od sk t)) M (by decide)
      rw [show (p :: r).map (fun q => PyData.int (od sk t q)) = (od sk t p :: r.map (od sk t)).map Datum.toD by rw [List.map_cons, List.map_cons, List.map_map]; rfl]
      simp only [↓WP_ok, ↓WPO_some, ↓WPB_t, ↓WPB_f, ↓WP_end, ↓pst_q, ↓pso_q, ↓pth_p, ↓WPO_map, ↓wz_var, ↓wz_int, ↓wz_bl, ↓wz_non, ↓wz_str, ↓wz_gi, ↓wz_bin, ↓wz_neg, ↓wz_cmp, ↓wz_cmp2, ↓wz_conj, ↓wz_disj, ↓wz_not, ↓wz_ite, ↓wz_tup, ↓wz_lst, ↓wz_ix, ↓wz_rev, ↓wz_nop, ↓wz_call, ↓wz_blt, ↓wz_isi, ↓wz_lc, ↓wz_lcO, ↓wz_rng, ↓wz_zip, ↓wz_lrg, ↓wz_sst, ↓wz_enm, ↓wz_get, ↓wz_get2, ↓wz_esn, ↓wz_esc, ↓wz_pn, ↓wz_pc, ↓wz_mv, ↓wz_ml, ↓wz_mk, ↓wz_mt, ↓wz_asg1, ↓wz_asgt, ↓wz_new, ↓wz_par, ↓wz_put, ↓wz_app, ↓wz_aug, ↓wz_ex, ↓wz_ifs, ↓wz_fors, ↓wz_forO, ↓wz_whl, ↓wz_ret, ↓wz_retL, ↓wz_ret0, ↓wz_brk, ↓wz_cont, ↓wz_pass, ↓wz_ssn, ↓wz_ssc, ↓wz_fb, ↓wz_lcb, negD_i, notD_b, revD_l, revD_t, isiD_d, layL_cup, layL_l, sA_nil, sA_cons, nxt_nx, nxt_rt, nxt_bk, nxt_ct, view_d, o_add, o_sub, c_lt, c_le, c_gt, c_ge, c_eqi, c_nei, ix_t0, ix_t1, ix_t2, ix_l0, ix_l1, ix_c0, ix_c1, put_c0, put_c1, b_int, b_abs, b_lenT, b_lenL, b_tupL, b_tupT, b_lstL, b_lstT, b_lstS, b_min2, b_max2, someD_d, lcM_its, lcM_l, lcM_t, forM_its, forM_l, forM_t, WP_bind, guardR_t, bt_nm, bt_tp, bts_nil, bts_cons, wipe_nil, wipe_cons, tT0, tT1, tT2, tT3, tT4, tT5, tT6, tT7, tT8, tT9, tT10, tT11, tT12, tL0, tL1, tL2, tL3, tL4, tL5, tL6, tL7, tL8, tL9, tL10, tL11, tL12, tL13, tL14, tL15, tL16, opt_map_some, opt_bind_some, finF_d, finF_nx, List.getD_cons_zero, List.getD_cons_succ, List.set_cons_zero, List.set_cons_succ, List.map_cons, List.map_nil, List.length_cons, List.length_nil, List.cons_append, List.nil_append, List.replicate_succ, List.replicate_zero, Nat.reduceAdd, Nat.reduceSub, Nat.sub_self, ↓wz_lc2, ↓wz_lc2b, ↓wz_slJ, slF_i, slT_i, slB_i, slD_t, slD_l, lc2M_its, lc2M_l, lc2M_t, innL_its, innL_l, innL_t, isD_map, ↓wz_slF_int, ↓wz_slT_int, ↓wz_slB_int_int, ↓wz_slB_int_neg, ↓wz_slB_int_var, ↓wz_slB_int_bin, ↓wz_slB_int_ix, ↓wz_slF_neg, ↓wz_slT_neg, ↓wz_slB_neg_int, ↓wz_slB_neg_neg, ↓wz_slB_neg_var, ↓wz_slB_neg_bin, ↓wz_slB_neg_ix, ↓wz_slF_var, ↓wz_slT_var, ↓wz_slB_var_int, ↓wz_slB_var_neg, ↓wz_slB_var_var, ↓wz_slB_var_bin, ↓wz_slB_var_ix, ↓wz_slF_bin, ↓wz_slT_bin, ↓wz_slB_bin_int, ↓wz_slB_bin_neg, ↓wz_slB_bin_var, ↓wz_slB_bin_bin, ↓wz_slB_bin_ix, ↓wz_slF_ix, ↓wz_slT_ix, ↓wz_slB_ix_int, ↓wz_slB_ix_neg, ↓wz_slB_ix_var, ↓wz_slB_ix_bin, ↓wz_slB_ix_ix, ↓wz_slF_call, ↓wz_slT_call, ↓wz_slF_blt, ↓wz_slT_blt, ↓wz_lcn, ↓wz_lcc, ↓wz_forn, ↓wz_forc, consO_s, consO_n, forK_nx, forK_ct, forK_bk, forK_rt, c_isN, c_isnN, c_isT, c_isF, c_isnT, c_isnF, isNone_n, isNone_t, isNone_l, isNone_i, isNone_b, c_nel0, c_eql0, Bool.not_true, Bool.not_false, o_catL, o_catT, Nat.reduceLeDiff, ↓wz_mp, ↓wz_ms, layS_i, c_nes, c_eqs, b_gcd, bm, -List.map_cons]
      exact ⟨rfl, by trivial⟩
    have eoffs : (irange 0 360).map (fun t => PyData.int (offF sk ps t)) = (offF sk ps 0 :: (irange 1 360).map (offF sk ps)).map Datum.toD := by
      rw [irange_cons (show (0 : Int) < 360 by decide), List.map_cons, List.map_cons, List.map_map]
      rfl
    have bmin : ∀ M, callOp .min [.d (.list ((irange 0 360).map fun t => PyData.int (offF sk ps t)))] M = some (.int m) := by
      intro M
      rw [eoffs, b_min _ _ _ (by decide), em]
      rfl
    rw [esd]
    simp only [↓WP_ok, ↓WPO_some, ↓WPB_t, ↓WPB_f, ↓WP_end, ↓pst_q, ↓pso_q, ↓pth_p, ↓WPO_map, ↓wz_var, ↓wz_int, ↓wz_bl, ↓wz_non, ↓wz_str, ↓wz_gi, ↓wz_bin, ↓wz_neg, ↓wz_cmp, ↓wz_cmp2, ↓wz_conj, ↓wz_disj, ↓wz_not, ↓wz_ite, ↓wz_tup, ↓wz_lst, ↓wz_ix, ↓wz_rev, ↓wz_nop, ↓wz_call, ↓wz_blt, ↓wz_isi, ↓wz_lc, ↓wz_lcO, ↓wz_rng, ↓wz_zip, ↓wz_lrg, ↓wz_sst, ↓wz_enm, ↓wz_get, ↓wz_get2, ↓wz_esn, ↓wz_esc, ↓wz_pn, ↓wz_pc, ↓wz_mv, ↓wz_ml, ↓wz_mk, ↓wz_mt, ↓wz_asg1, ↓wz_asgt, ↓wz_new, ↓wz_par, ↓wz_put, ↓wz_app, ↓wz_aug, ↓wz_ex, ↓wz_ifs, ↓wz_fors, ↓wz_forO, ↓wz_whl, ↓wz_ret, ↓wz_retL, ↓wz_ret0, ↓wz_brk, ↓wz_cont, ↓wz_pass, ↓wz_ssn, ↓wz_ssc, ↓wz_fb, ↓wz_lcb, negD_i, notD_b, revD_l, revD_t, isiD_d, layL_cup, layL_l, sA_nil, sA_cons, nxt_nx, nxt_rt, nxt_bk, nxt_ct, view_d, o_add, o_sub, c_lt, c_le, c_gt, c_ge, c_eqi, c_nei, ix_t0, ix_t1, ix_t2, ix_l0, ix_l1, ix_c0, ix_c1, put_c0, put_c1, b_int, b_abs, b_lenT, b_lenL, b_tupL, b_tupT, b_lstL, b_lstT, b_lstS, b_min2, b_max2, someD_d, lcM_its, lcM_l, lcM_t, forM_its, forM_l, forM_t, WP_bind, guardR_t, bt_nm, bt_tp, bts_nil, bts_cons, wipe_nil, wipe_cons, tT0, tT1, tT2, tT3, tT4, tT5, tT6, tT7, tT8, tT9, tT10, tT11, tT12, tL0, tL1, tL2, tL3, tL4, tL5, tL6, tL7, tL8, tL9, tL10, tL11, tL12, tL13, tL14, tL15, tL16, opt_map_some, opt_bind_some, finF_d, finF_nx, List.getD_cons_zero, List.getD_cons_succ, List.set_cons_zero, List.set_cons_succ, List.map_cons, List.map_nil, List.length_cons, List.length_nil, List.cons_append, List.nil_append, List.replicate_succ, List.replicate_zero, Nat.reduceAdd, Nat.reduceSub, Nat.sub_self, ↓wz_lc2, ↓wz_lc2b, ↓wz_slJ, slF_i, slT_i, slB_i, slD_t, slD_l, lc2M_its, lc2M_l, lc2M_t, innL_its, innL_l, innL_t, isD_map, ↓wz_slF_int, ↓wz_slT_int, ↓wz_slB_int_int, ↓wz_slB_int_neg, ↓wz_slB_int_var, ↓wz_slB_int_bin, ↓wz_slB_int_ix, ↓wz_slF_neg, ↓wz_slT_neg, ↓wz_slB_neg_int, ↓wz_slB_neg_neg, ↓wz_slB_neg_var, ↓wz_slB_neg_bin, ↓wz_slB_neg_ix, ↓wz_slF_var, ↓wz_slT_var, ↓wz_slB_var_int, ↓wz_slB_var_neg, ↓wz_slB_var_var, ↓wz_slB_var_bin, ↓wz_slB_var_ix, ↓wz_slF_bin, ↓wz_slT_bin, ↓wz_slB_bin_int, ↓wz_slB_bin_neg, ↓wz_slB_bin_var, ↓wz_slB_bin_bin, ↓wz_slB_bin_ix, ↓wz_slF_ix, ↓wz_slT_ix, ↓wz_slB_ix_int, ↓wz_slB_ix_neg, ↓wz_slB_ix_var, ↓wz_slB_ix_bin, ↓wz_slB_ix_ix, ↓wz_slF_call, ↓wz_slT_call, ↓wz_slF_blt, ↓wz_slT_blt, ↓wz_lcn, ↓wz_lcc, ↓wz_forn, ↓wz_forc, consO_s, consO_n, forK_nx, forK_ct, forK_bk, forK_rt, c_isN, c_isnN, c_isT, c_isF, c_isnT, c_isnF, isNone_n, isNone_t, isNone_l, isNone_i, isNone_b, c_nel0, c_eql0, Bool.not_true, Bool.not_false, o_catL, o_catT, Nat.reduceLeDiff, ↓wz_mp, ↓wz_ms, layS_i, c_nes, c_eqs, b_gcd]
    refine WP.eq (best_step_ev (by decide) hs24 hS _) ?_
    rw [best_is hj0 hj1 hjm hall hfst]
    simp only [↓WP_ok, ↓WPO_some, ↓WPB_t, ↓WPB_f, ↓WP_end, ↓pst_q, ↓pso_q, ↓pth_p, ↓WPO_map, ↓wz_var, ↓wz_int, ↓wz_bl, ↓wz_non, ↓wz_str, ↓wz_gi, ↓wz_bin, ↓wz_neg, ↓wz_cmp, ↓wz_cmp2, ↓wz_conj, ↓wz_disj, ↓wz_not, ↓wz_ite, ↓wz_tup, ↓wz_lst, ↓wz_ix, ↓wz_rev, ↓wz_nop, ↓wz_call, ↓wz_blt, ↓wz_isi, ↓wz_lc, ↓wz_lcO, ↓wz_rng, ↓wz_zip, ↓wz_lrg, ↓wz_sst, ↓wz_enm, ↓wz_get, ↓wz_get2, ↓wz_esn, ↓wz_esc, ↓wz_pn, ↓wz_pc, ↓wz_mv, ↓wz_ml, ↓wz_mk, ↓wz_mt, ↓wz_asg1, ↓wz_asgt, ↓wz_new, ↓wz_par, ↓wz_put, ↓wz_app, ↓wz_aug, ↓wz_ex, ↓wz_ifs, ↓wz_fors, ↓wz_forO, ↓wz_whl, ↓wz_ret, ↓wz_retL, ↓wz_ret0, ↓wz_brk, ↓wz_cont, ↓wz_pass, ↓wz_ssn, ↓wz_ssc, ↓wz_fb, ↓wz_lcb, negD_i, notD_b, revD_l, revD_t, isiD_d, layL_cup, layL_l, sA_nil, sA_cons, nxt_nx, nxt_rt, nxt_bk, nxt_ct, view_d, o_add, o_sub, c_lt, c_le, c_gt, c_ge, c_eqi, c_nei, ix_t0, ix_t1, ix_t2, ix_l0, ix_l1, ix_c0, ix_c1, put_c0, put_c1, b_int, b_abs, b_lenT, b_lenL, b_tupL, b_tupT, b_lstL, b_lstT, b_lstS, b_min2, b_max2, someD_d, lcM_its, lcM_l, lcM_t, forM_its, forM_l, forM_t, WP_bind, guardR_t, bt_nm, bt_tp, bts_nil, bts_cons, wipe_nil, wipe_cons, tT0, tT1, tT2, tT3, tT4, tT5, tT6, tT7, tT8, tT9, tT10, tT11, tT12, tL0, tL1, tL2, tL3, tL4, tL5, tL6, tL7, tL8, tL9, tL10, tL11, tL12, tL13, tL14, tL15, tL16, opt_map_some, opt_bind_some, finF_d, finF_nx, List.getD_cons_zero, List.getD_cons_succ, List.set_cons_zero, List.set_cons_succ, List.map_cons, List.map_nil, List.length_cons, List.length_nil, List.cons_append, List.nil_append, List.replicate_succ, List.replicate_zero, Nat.reduceAdd, Nat.reduceSub, Nat.sub_self, ↓wz_lc2, ↓wz_lc2b, ↓wz_slJ, slF_i, slT_i, slB_i, slD_t, slD_l, lc2M_its, lc2M_l, lc2M_t, innL_its, innL_l, innL_t, isD_map, ↓wz_slF_int, ↓wz_slT_int, ↓wz_slB_int_int, ↓wz_slB_int_neg, ↓wz_slB_int_var, ↓wz_slB_int_bin, ↓wz_slB_int_ix, ↓wz_slF_neg, ↓wz_slT_neg, ↓wz_slB_neg_int, ↓wz_slB_neg_neg, ↓wz_slB_neg_var, ↓wz_slB_neg_bin, ↓wz_slB_neg_ix, ↓wz_slF_var, ↓wz_slT_var, ↓wz_slB_var_int, ↓wz_slB_var_neg, ↓wz_slB_var_var, ↓wz_slB_var_bin, ↓wz_slB_var_ix, ↓wz_slF_bin, ↓wz_slT_bin, ↓wz_slB_bin_int, ↓wz_slB_bin_neg, ↓wz_slB_bin_var, ↓wz_slB_bin_bin, ↓wz_slB_bin_ix, ↓wz_slF_ix, ↓wz_slT_ix, ↓wz_slB_ix_int, ↓wz_slB_ix_neg, ↓wz_slB_ix_var, ↓wz_slB_ix_bin, ↓wz_slB_ix_ix, ↓wz_slF_call, ↓wz_slT_call, ↓wz_slF_blt, ↓wz_slT_blt, ↓wz_lcn, ↓wz_lcc, ↓wz_forn, ↓wz_forc, consO_s, consO_n, forK_nx, forK_ct, forK_bk, forK_rt, c_isN, c_isnN, c_isT, c_isF, c_isnT, c_isnF, isNone_n, isNone_t, isNone_l, isNone_i, isNone_b, c_nel0, c_eql0, Bool.not_true, Bool.not_false, o_catL, o_catT, Nat.reduceLeDiff, ↓wz_mp, ↓wz_ms, layS_i, c_nes, c_eqs, b_gcd, bmin]
    refine WP.lix rfl ?_
    simp only [↓WP_ok, ↓WPO_some, ↓WPB_t, ↓WPB_f, ↓WP_end, ↓pst_q, ↓pso_q, ↓pth_p, ↓WPO_map, ↓wz_var, ↓wz_int, ↓wz_bl, ↓wz_non, ↓wz_str, ↓wz_gi, ↓wz_bin, ↓wz_neg, ↓wz_cmp, ↓wz_cmp2, ↓wz_conj, ↓wz_disj, ↓wz_not, ↓wz_ite, ↓wz_tup, ↓wz_lst, ↓wz_ix, ↓wz_rev, ↓wz_nop, ↓wz_call, ↓wz_blt, ↓wz_isi, ↓wz_lc, ↓wz_lcO, ↓wz_rng, ↓wz_zip, ↓wz_lrg, ↓wz_sst, ↓wz_enm, ↓wz_get, ↓wz_get2, ↓wz_esn, ↓wz_esc, ↓wz_pn, ↓wz_pc, ↓wz_mv, ↓wz_ml, ↓wz_mk, ↓wz_mt, ↓wz_asg1, ↓wz_asgt, ↓wz_new, ↓wz_par, ↓wz_put, ↓wz_app, ↓wz_aug, ↓wz_ex, ↓wz_ifs, ↓wz_fors, ↓wz_forO, ↓wz_whl, ↓wz_ret, ↓wz_retL, ↓wz_ret0, ↓wz_brk, ↓wz_cont, ↓wz_pass, ↓wz_ssn, ↓wz_ssc, ↓wz_fb, ↓wz_lcb, negD_i, notD_b, revD_l, revD_t, isiD_d, layL_cup, layL_l, sA_nil, sA_cons, nxt_nx, nxt_rt, nxt_bk, nxt_ct, view_d, o_add, o_sub, c_lt, c_le, c_gt, c_ge, c_eqi, c_nei, ix_t0, ix_t1, ix_t2, ix_l0, ix_l1, ix_c0, ix_c1, put_c0, put_c1, b_int, b_abs, b_lenT, b_lenL, b_tupL, b_tupT, b_lstL, b_lstT, b_lstS, b_min2, b_max2, someD_d, lcM_its, lcM_l, lcM_t, forM_its, forM_l, forM_t, WP_bind, guardR_t, bt_nm, bt_tp, bts_nil, bts_cons, wipe_nil, wipe_cons, tT0, tT1, tT2, tT3, tT4, tT5, tT6, tT7, tT8, tT9, tT10, tT11, tT12, tL0, tL1, tL2, tL3, tL4, tL5, tL6, tL7, tL8, tL9, tL10, tL11, tL12, tL13, tL14, tL15, tL16, opt_map_some, opt_bind_some, finF_d, finF_nx, List.getD_cons_zero, List.getD_cons_succ, List.set_cons_zero, List.set_cons_succ, List.map_cons, List.map_nil, List.length_cons, List.length_nil, List.cons_append, List.nil_append, List.replicate_succ, List.replicate_zero, Nat.reduceAdd, Nat.reduceSub, Nat.sub_self, ↓wz_lc2, ↓wz_lc2b, ↓wz_slJ, slF_i, slT_i, slB_i, slD_t, slD_l, lc2M_its, lc2M_l, lc2M_t, innL_its, innL_l, innL_t, isD_map, ↓wz_slF_int, ↓wz_slT_int, ↓wz_slB_int_int, ↓wz_slB_int_neg, ↓wz_slB_int_var, ↓wz_slB_int_bin, ↓wz_slB_int_ix, ↓wz_slF_neg, ↓wz_slT_neg, ↓wz_slB_neg_int, ↓wz_slB_neg_neg, ↓wz_slB_neg_var, ↓wz_slB_neg_bin, ↓wz_slB_neg_ix, ↓wz_slF_var, ↓wz_slT_var, ↓wz_slB_var_int, ↓wz_slB_var_neg, ↓wz_slB_var_var, ↓wz_slB_var_bin, ↓wz_slB_var_ix, ↓wz_slF_bin, ↓wz_slT_bin, ↓wz_slB_bin_int, ↓wz_slB_bin_neg, ↓wz_slB_bin_var, ↓wz_slB_bin_bin, ↓wz_slB_bin_ix, ↓wz_slF_ix, ↓wz_slT_ix, ↓wz_slB_ix_int, ↓wz_slB_ix_neg, ↓wz_slB_ix_var, ↓wz_slB_ix_bin, ↓wz_slB_ix_ix, ↓wz_slF_call, ↓wz_slT_call, ↓wz_slF_blt, ↓wz_slT_blt, ↓wz_lcn, ↓wz_lcc, ↓wz_forn, ↓wz_forc, consO_s, consO_n, forK_nx, forK_ct, forK_bk, forK_rt, c_isN, c_isnN, c_isT, c_isF, c_isnT, c_isnF, isNone_n, isNone_t, isNone_l, isNone_i, isNone_b, c_nel0, c_eql0, Bool.not_true, Bool.not_false, o_catL, o_catT, Nat.reduceLeDiff, ↓wz_mp, ↓wz_ms, layS_i, c_nes, c_eqs, b_gcd, bmin, lix_row _ hj0 hj1 hjm hfst]
    refine WP.same rfl rfl (plT (by simp) (pl1 (plI _) (pl1 (plI _) pl0))) ?_ ?_
    · exact Nat.le_trans (Nat.succ_le_succ (dT (k := 0) (d1 (dI _ _) (d1 (dI _ _) (d0 0))))) (by decide)
    simp only [↓WP_ok, ↓WPO_some, ↓WPB_t, ↓WPB_f, ↓WP_end, ↓pst_q, ↓pso_q, ↓pth_p, ↓WPO_map, ↓wz_var, ↓wz_int, ↓wz_bl, ↓wz_non, ↓wz_str, ↓wz_gi, ↓wz_bin, ↓wz_neg, ↓wz_cmp, ↓wz_cmp2, ↓wz_conj, ↓wz_disj, ↓wz_not, ↓wz_ite, ↓wz_tup, ↓wz_lst, ↓wz_ix, ↓wz_rev, ↓wz_nop, ↓wz_call, ↓wz_blt, ↓wz_isi, ↓wz_lc, ↓wz_lcO, ↓wz_rng, ↓wz_zip, ↓wz_lrg, ↓wz_sst, ↓wz_enm, ↓wz_get, ↓wz_get2, ↓wz_esn, ↓wz_esc, ↓wz_pn, ↓wz_pc, ↓wz_mv, ↓wz_ml, ↓wz_mk, ↓wz_mt, ↓wz_asg1, ↓wz_asgt, ↓wz_new, ↓wz_par, ↓wz_put, ↓wz_app, ↓wz_aug, ↓wz_ex, ↓wz_ifs, ↓wz_fors, ↓wz_forO, ↓wz_whl, ↓wz_ret, ↓wz_retL, ↓wz_ret0, ↓wz_brk, ↓wz_cont, ↓wz_pass, ↓wz_ssn, ↓wz_ssc, ↓wz_fb, ↓wz_lcb, negD_i, notD_b, revD_l, revD_t, isiD_d, layL_cup, layL_l, sA_nil, sA_cons, nxt_nx, nxt_rt, nxt_bk, nxt_ct, view_d, o_add, o_sub, c_lt, c_le, c_gt, c_ge, c_eqi, c_nei, ix_t0, ix_t1, ix_t2, ix_l0, ix_l1, ix_c0, ix_c1, put_c0, put_c1, b_int, b_abs, b_lenT, b_lenL, b_tupL, b_tupT, b_lstL, b_lstT, b_lstS, b_min2, b_max2, someD_d, lcM_its, lcM_l, lcM_t, forM_its, forM_l, forM_t, WP_bind, guardR_t, bt_nm, bt_tp, bts_nil, bts_cons, wipe_nil, wipe_cons, tT0, tT1, tT2, tT3, tT4, tT5, tT6, tT7, tT8, tT9, tT10, tT11, tT12, tL0, tL1, tL2, tL3, tL4, tL5, tL6, tL7, tL8, tL9, tL10, tL11, tL12, tL13, tL14, tL15, tL16, opt_map_some, opt_bind_some, finF_d, finF_nx, List.getD_cons_zero, List.getD_cons_succ, List.set_cons_zero, List.set_cons_succ, List.map_cons, List.map_nil, List.length_cons, List.length_nil, List.cons_append, List.nil_append, List.replicate_succ, List.replicate_zero, Nat.reduceAdd, Nat.reduceSub, Nat.sub_self, ↓wz_lc2, ↓wz_lc2b, ↓wz_slJ, slF_i, slT_i, slB_i, slD_t, slD_l, lc2M_its, lc2M_l, lc2M_t, innL_its, innL_l, innL_t, isD_map, ↓wz_slF_int, ↓wz_slT_int, ↓wz_slB_int_int, ↓wz_slB_int_neg, ↓wz_slB_int_var, ↓wz_slB_int_bin, ↓wz_slB_int_ix, ↓wz_slF_neg, ↓wz_slT_neg, ↓wz_slB_neg_int, ↓wz_slB_neg_neg, ↓wz_slB_neg_var, ↓wz_slB_neg_bin, ↓wz_slB_neg_ix, ↓wz_slF_var, ↓wz_slT_var, ↓wz_slB_var_int, ↓wz_slB_var_neg, ↓wz_slB_var_var, ↓wz_slB_var_bin, ↓wz_slB_var_ix, ↓wz_slF_bin, ↓wz_slT_bin, ↓wz_slB_bin_int, ↓wz_slB_bin_neg, ↓wz_slB_bin_var, ↓wz_slB_bin_bin, ↓wz_slB_bin_ix, ↓wz_slF_ix, ↓wz_slT_ix, ↓wz_slB_ix_int, ↓wz_slB_ix_neg, ↓wz_slB_ix_var, ↓wz_slB_ix_bin, ↓wz_slB_ix_ix, ↓wz_slF_call, ↓wz_slT_call, ↓wz_slF_blt, ↓wz_slT_blt, ↓wz_lcn, ↓wz_lcc, ↓wz_forn, ↓wz_forc, consO_s, consO_n, forK_nx, forK_ct, forK_bk, forK_rt, c_isN, c_isnN, c_isT, c_isF, c_isnT, c_isnF, isNone_n, isNone_t, isNone_l, isNone_i, isNone_b, c_nel0, c_eql0, Bool.not_true, Bool.not_false, o_catL, o_catT, Nat.reduceLeDiff, ↓wz_mp, ↓wz_ms, layS_i, c_nes, c_eqs, b_gcd, Bool.not_true, bmin]
    refine WP.roll Kr (by decide) (by decide) (by decide) (fun r c hr0 hr1 => ?_)
    simp only [↓WP_ok, ↓WPO_some, ↓WPB_t, ↓WPB_f, ↓WP_end, ↓pst_q, ↓pso_q, ↓pth_p, ↓WPO_map, ↓wz_var, ↓wz_int, ↓wz_bl, ↓wz_non, ↓wz_str, ↓wz_gi, ↓wz_bin, ↓wz_neg, ↓wz_cmp, ↓wz_cmp2, ↓wz_conj, ↓wz_disj, ↓wz_not, ↓wz_ite, ↓wz_tup, ↓wz_lst, ↓wz_ix, ↓wz_rev, ↓wz_nop, ↓wz_call, ↓wz_blt, ↓wz_isi, ↓wz_lc, ↓wz_lcO, ↓wz_rng, ↓wz_zip, ↓wz_lrg, ↓wz_sst, ↓wz_enm, ↓wz_get, ↓wz_get2, ↓wz_esn, ↓wz_esc, ↓wz_pn, ↓wz_pc, ↓wz_mv, ↓wz_ml, ↓wz_mk, ↓wz_mt, ↓wz_asg1, ↓wz_asgt, ↓wz_new, ↓wz_par, ↓wz_put, ↓wz_app, ↓wz_aug, ↓wz_ex, ↓wz_ifs, ↓wz_fors, ↓wz_forO, ↓wz_whl, ↓wz_ret, ↓wz_retL, ↓wz_ret0, ↓wz_brk, ↓wz_cont, ↓wz_pass, ↓wz_ssn, ↓wz_ssc, ↓wz_fb, ↓wz_lcb, negD_i, notD_b, revD_l, revD_t, isiD_d, layL_cup, layL_l, sA_nil, sA_cons, nxt_nx, nxt_rt, nxt_bk, nxt_ct, view_d, o_add, o_sub, c_lt, c_le, c_gt, c_ge, c_eqi, c_nei, ix_t0, ix_t1, ix_t2, ix_l0, ix_l1, ix_c0, ix_c1, put_c0, put_c1, b_int, b_abs, b_lenT, b_lenL, b_tupL, b_tupT, b_lstL, b_lstT, b_lstS, b_min2, b_max2, someD_d, lcM_its, lcM_l, lcM_t, forM_its, forM_l, forM_t, WP_bind, guardR_t, bt_nm, bt_tp, bts_nil, bts_cons, wipe_nil, wipe_cons, tT0, tT1, tT2, tT3, tT4, tT5, tT6, tT7, tT8, tT9, tT10, tT11, tT12, tL0, tL1, tL2, tL3, tL4, tL5, tL6, tL7, tL8, tL9, tL10, tL11, tL12, tL13, tL14, tL15, tL16, opt_map_some, opt_bind_some, finF_d, finF_nx, List.getD_cons_zero, List.getD_cons_succ, List.set_cons_zero, List.set_cons_succ, List.map_cons, List.map_nil, List.length_cons, List.length_nil, List.cons_append, List.nil_append, List.replicate_succ, List.replicate_zero, Nat.reduceAdd, Nat.reduceSub, Nat.sub_self, ↓wz_lc2, ↓wz_lc2b, ↓wz_slJ, slF_i, slT_i, slB_i, slD_t, slD_l, lc2M_its, lc2M_l, lc2M_t, innL_its, innL_l, innL_t, isD_map, ↓wz_slF_int, ↓wz_slT_int, ↓wz_slB_int_int, ↓wz_slB_int_neg, ↓wz_slB_int_var, ↓wz_slB_int_bin, ↓wz_slB_int_ix, ↓wz_slF_neg, ↓wz_slT_neg, ↓wz_slB_neg_int, ↓wz_slB_neg_neg, ↓wz_slB_neg_var, ↓wz_slB_neg_bin, ↓wz_slB_neg_ix, ↓wz_slF_var, ↓wz_slT_var, ↓wz_slB_var_int, ↓wz_slB_var_neg, ↓wz_slB_var_var, ↓wz_slB_var_bin, ↓wz_slB_var_ix, ↓wz_slF_bin, ↓wz_slT_bin, ↓wz_slB_bin_int, ↓wz_slB_bin_neg, ↓wz_slB_bin_var, ↓wz_slB_bin_bin, ↓wz_slB_bin_ix, ↓wz_slF_ix, ↓wz_slT_ix, ↓wz_slB_ix_int, ↓wz_slB_ix_neg, ↓wz_slB_ix_var, ↓wz_slB_ix_bin, ↓wz_slB_ix_ix, ↓wz_slF_call, ↓wz_slT_call, ↓wz_slF_blt, ↓wz_slT_blt, ↓wz_lcn, ↓wz_lcc, ↓wz_forn, ↓wz_forc, consO_s, consO_n, forK_nx, forK_ct, forK_bk, forK_rt, c_isN, c_isnN, c_isT, c_isF, c_isnT, c_isnF, isNone_n, isNone_t, isNone_l, isNone_i, isNone_b, c_nel0, c_eql0, Bool.not_true, Bool.not_false, o_catL, o_catT, Nat.reduceLeDiff, ↓wz_mp, ↓wz_ms, layS_i, c_nes, c_eqs, b_gcd, -wz_forc]
    refine WP.forM (l := [0, m, m + r, 180]) (g := fun i : Int => D.d (.int i)) (fun _ ρ M => M = [cupM c] ∧ ∃ o : Nat → Option D, ρ = [some (.scr (ns.map .int)), some (.own 0), o 2, o 3, o 4, o 5, o 6, some (.d (skyD sk)), some (.d (.int (slen sk))), some (.d (.int step)), some (.d (intD l)), some (.d (seenD ps)), some (.d (.list ((irange 0 360).map fun t => .int (offF sk ps t)))), o 13, o 14, o 15, o 16, o 17, o 18, o 19, o 20, o 21, o 22, o 23]) ⟨rfl, exO rfl⟩ ?_ ?_
    · rintro l1 slack l2 ρ M e ⟨rfl, o, rfl⟩
      have hsl : 0 ≤ slack ∧ slack ≤ 180 := by
        have : slack ∈ [0, m, m + r, 180] := by rw [e]; simp
        simp only [List.mem_cons, List.not_mem_nil, or_false] at this
        omega
      simp only [↓WP_ok, ↓WPO_some, ↓WPB_t, ↓WPB_f, ↓WP_end, ↓pst_q, ↓pso_q, ↓pth_p, ↓WPO_map, ↓wz_var, ↓wz_int, ↓wz_bl, ↓wz_non, ↓wz_str, ↓wz_gi, ↓wz_bin, ↓wz_neg, ↓wz_cmp, ↓wz_cmp2, ↓wz_conj, ↓wz_disj, ↓wz_not, ↓wz_ite, ↓wz_tup, ↓wz_lst, ↓wz_ix, ↓wz_rev, ↓wz_nop, ↓wz_call, ↓wz_blt, ↓wz_isi, ↓wz_lc, ↓wz_lcO, ↓wz_rng, ↓wz_zip, ↓wz_lrg, ↓wz_sst, ↓wz_enm, ↓wz_get, ↓wz_get2, ↓wz_esn, ↓wz_esc, ↓wz_pn, ↓wz_pc, ↓wz_mv, ↓wz_ml, ↓wz_mk, ↓wz_mt, ↓wz_asg1, ↓wz_asgt, ↓wz_new, ↓wz_par, ↓wz_put, ↓wz_app, ↓wz_aug, ↓wz_ex, ↓wz_ifs, ↓wz_fors, ↓wz_forO, ↓wz_whl, ↓wz_ret, ↓wz_retL, ↓wz_ret0, ↓wz_brk, ↓wz_cont, ↓wz_pass, ↓wz_ssn, ↓wz_ssc, ↓wz_fb, ↓wz_lcb, negD_i, notD_b, revD_l, revD_t, isiD_d, layL_cup, layL_l, sA_nil, sA_cons, nxt_nx, nxt_rt, nxt_bk, nxt_ct, view_d, o_add, o_sub, c_lt, c_le, c_gt, c_ge, c_eqi, c_nei, ix_t0, ix_t1, ix_t2, ix_l0, ix_l1, ix_c0, ix_c1, put_c0, put_c1, b_int, b_abs, b_lenT, b_lenL, b_tupL, b_tupT, b_lstL, b_lstT, b_lstS, b_min2, b_max2, someD_d, lcM_its, lcM_l, lcM_t, forM_its, forM_l, forM_t, WP_bind, guardR_t, bt_nm, bt_tp, bts_nil, bts_cons, wipe_nil, wipe_cons, tT0, tT1, tT2, tT3, tT4, tT5, tT6, tT7, tT8, tT9, tT10, tT11, tT12, tL0, tL1, tL2, tL3, tL4, tL5, tL6, tL7, tL8, tL9, tL10, tL11, tL12, tL13, tL14, tL15, tL16, opt_map_some, opt_bind_some, finF_d, finF_nx, List.getD_cons_zero, List.getD_cons_succ, List.set_cons_zero, List.set_cons_succ, List.map_cons, List.map_nil, List.length_cons, List.length_nil, List.cons_append, List.nil_append, List.replicate_succ, List.replicate_zero, Nat.reduceAdd, Nat.reduceSub, Nat.sub_self, ↓wz_lc2, ↓wz_lc2b, ↓wz_slJ, slF_i, slT_i, slB_i, slD_t, slD_l, lc2M_its, lc2M_l, lc2M_t, innL_its, innL_l, innL_t, isD_map, ↓wz_slF_int, ↓wz_slT_int, ↓wz_slB_int_int, ↓wz_slB_int_neg, ↓wz_slB_int_var, ↓wz_slB_int_bin, ↓wz_slB_int_ix, ↓wz_slF_neg, ↓wz_slT_neg, ↓wz_slB_neg_int, ↓wz_slB_neg_neg, ↓wz_slB_neg_var, ↓wz_slB_neg_bin, ↓wz_slB_neg_ix, ↓wz_slF_var, ↓wz_slT_var, ↓wz_slB_var_int, ↓wz_slB_var_neg, ↓wz_slB_var_var, ↓wz_slB_var_bin, ↓wz_slB_var_ix, ↓wz_slF_bin, ↓wz_slT_bin, ↓wz_slB_bin_int, ↓wz_slB_bin_neg, ↓wz_slB_bin_var, ↓wz_slB_bin_bin, ↓wz_slB_bin_ix, ↓wz_slF_ix, ↓wz_slT_ix, ↓wz_slB_ix_int, ↓wz_slB_ix_neg, ↓wz_slB_ix_var, ↓wz_slB_ix_bin, ↓wz_slB_ix_ix, ↓wz_slF_call, ↓wz_slT_call, ↓wz_slF_blt, ↓wz_slT_blt, ↓wz_lcn, ↓wz_lcc, ↓wz_forn, ↓wz_forc, consO_s, consO_n, forK_nx, forK_ct, forK_bk, forK_rt, c_isN, c_isnN, c_isT, c_isF, c_isnT, c_isnF, isNone_n, isNone_t, isNone_l, isNone_i, isNone_b, c_nel0, c_eql0, Bool.not_true, Bool.not_false, o_catL, o_catT, Nat.reduceLeDiff, ↓wz_mp, ↓wz_ms, layS_i, c_nes, c_eqs, b_gcd]
      refine WP.eq (told_steps_ev (by decide) hs24 hS hsl.1 hsl.2 _) ?_
      simp only [↓WP_ok, ↓WPO_some, ↓WPB_t, ↓WPB_f, ↓WP_end, ↓pst_q, ↓pso_q, ↓pth_p, ↓WPO_map, ↓wz_var, ↓wz_int, ↓wz_bl, ↓wz_non, ↓wz_str, ↓wz_gi, ↓wz_bin, ↓wz_neg, ↓wz_cmp, ↓wz_cmp2, ↓wz_conj, ↓wz_disj, ↓wz_not, ↓wz_ite, ↓wz_tup, ↓wz_lst, ↓wz_ix, ↓wz_rev, ↓wz_nop, ↓wz_call, ↓wz_blt, ↓wz_isi, ↓wz_lc, ↓wz_lcO, ↓wz_rng, ↓wz_zip, ↓wz_lrg, ↓wz_sst, ↓wz_enm, ↓wz_get, ↓wz_get2, ↓wz_esn, ↓wz_esc, ↓wz_pn, ↓wz_pc, ↓wz_mv, ↓wz_ml, ↓wz_mk, ↓wz_mt, ↓wz_asg1, ↓wz_asgt, ↓wz_new, ↓wz_par, ↓wz_put, ↓wz_app, ↓wz_aug, ↓wz_ex, ↓wz_ifs, ↓wz_fors, ↓wz_forO, ↓wz_whl, ↓wz_ret, ↓wz_retL, ↓wz_ret0, ↓wz_brk, ↓wz_cont, ↓wz_pass, ↓wz_ssn, ↓wz_ssc, ↓wz_fb, ↓wz_lcb, negD_i, notD_b, revD_l, revD_t, isiD_d, layL_cup, layL_l, sA_nil, sA_cons, nxt_nx, nxt_rt, nxt_bk, nxt_ct, view_d, o_add, o_sub, c_lt, c_le, c_gt, c_ge, c_eqi, c_nei, ix_t0, ix_t1, ix_t2, ix_l0, ix_l1, ix_c0, ix_c1, put_c0, put_c1, b_int, b_abs, b_lenT, b_lenL, b_tupL, b_tupT, b_lstL, b_lstT, b_lstS, b_min2, b_max2, someD_d, lcM_its, lcM_l, lcM_t, forM_its, forM_l, forM_t, WP_bind, guardR_t, bt_nm, bt_tp, bts_nil, bts_cons, wipe_nil, wipe_cons, tT0, tT1, tT2, tT3, tT4, tT5, tT6, tT7, tT8, tT9, tT10, tT11, tT12, tL0, tL1, tL2, tL3, tL4, tL5, tL6, tL7, tL8, tL9, tL10, tL11, tL12, tL13, tL14, tL15, tL16, opt_map_some, opt_bind_some, finF_d, finF_nx, List.getD_cons_zero, List.getD_cons_succ, List.set_cons_zero, List.set_cons_succ, List.map_cons, List.map_nil, List.length_cons, List.length_nil, List.cons_append, List.nil_append, List.replicate_succ, List.replicate_zero, Nat.reduceAdd, Nat.reduceSub, Nat.sub_self, ↓wz_lc2, ↓wz_lc2b, ↓wz_slJ, slF_i, slT_i, slB_i, slD_t, slD_l, lc2M_its, lc2M_l, lc2M_t, innL_its, innL_l, innL_t, isD_map, ↓wz_slF_int, ↓wz_slT_int, ↓wz_slB_int_int, ↓wz_slB_int_neg, ↓wz_slB_int_var, ↓wz_slB_int_bin, ↓wz_slB_int_ix, ↓wz_slF_neg, ↓wz_slT_neg, ↓wz_slB_neg_int, ↓wz_slB_neg_neg, ↓wz_slB_neg_var, ↓wz_slB_neg_bin, ↓wz_slB_neg_ix, ↓wz_slF_var, ↓wz_slT_var, ↓wz_slB_var_int, ↓wz_slB_var_neg, ↓wz_slB_var_var, ↓wz_slB_var_bin, ↓wz_slB_var_ix, ↓wz_slF_bin, ↓wz_slT_bin, ↓wz_slB_bin_int, ↓wz_slB_bin_neg, ↓wz_slB_bin_var, ↓wz_slB_bin_bin, ↓wz_slB_bin_ix, ↓wz_slF_ix, ↓wz_slT_ix, ↓wz_slB_ix_int, ↓wz_slB_ix_neg, ↓wz_slB_ix_var, ↓wz_slB_ix_bin, ↓wz_slB_ix_ix, ↓wz_slF_call, ↓wz_slT_call, ↓wz_slF_blt, ↓wz_slT_blt, ↓wz_lcn, ↓wz_lcc, ↓wz_forn, ↓wz_forc, consO_s, consO_n, forK_nx, forK_ct, forK_bk, forK_rt, c_isN, c_isnN, c_isT, c_isF, c_isnT, c_isnF, isNone_n, isNone_t, isNone_l, isNone_i, isNone_b, c_nel0, c_eql0, Bool.not_true, Bool.not_false, o_catL, o_catT, Nat.reduceLeDiff, ↓wz_mp, ↓wz_ms, layS_i, c_nes, c_eqs, b_gcd, r360]
      refine WP.lcZF (fun t => decide (offF sk ps t ≤ slack)) .int (fun t ht' => ?_) ?_
      · have ht' := mem_irange.mp ht'
        simp only [↓WP_ok, ↓WPO_some, ↓WPB_t, ↓WPB_f, ↓WP_end, ↓pst_q, ↓pso_q, ↓pth_p, ↓WPO_map, ↓wz_var, ↓wz_int, ↓wz_bl, ↓wz_non, ↓wz_str, ↓wz_gi, ↓wz_bin, ↓wz_neg, ↓wz_cmp, ↓wz_cmp2, ↓wz_conj, ↓wz_disj, ↓wz_not, ↓wz_ite, ↓wz_tup, ↓wz_lst, ↓wz_ix, ↓wz_rev, ↓wz_nop, ↓wz_call, ↓wz_blt, ↓wz_isi, ↓wz_lc, ↓wz_lcO, ↓wz_rng, ↓wz_zip, ↓wz_lrg, ↓wz_sst, ↓wz_enm, ↓wz_get, ↓wz_get2, ↓wz_esn, ↓wz_esc, ↓wz_pn, ↓wz_pc, ↓wz_mv, ↓wz_ml, ↓wz_mk, ↓wz_mt, ↓wz_asg1, ↓wz_asgt, ↓wz_new, ↓wz_par, ↓wz_put, ↓wz_app, ↓wz_aug, ↓wz_ex, ↓wz_ifs, ↓wz_fors, ↓wz_forO, ↓wz_whl, ↓wz_ret, ↓wz_retL, ↓wz_ret0, ↓wz_brk, ↓wz_cont, ↓wz_pass, ↓wz_ssn, ↓wz_ssc, ↓wz_fb, ↓wz_lcb, negD_i, notD_b, revD_l, revD_t, isiD_d, layL_cup, layL_l, sA_nil, sA_cons, nxt_nx, nxt_rt, nxt_bk, nxt_ct, view_d, o_add, o_sub, c_lt, c_le, c_gt, c_ge, c_eqi, c_nei, ix_t0, ix_t1, ix_t2, ix_l0, ix_l1, ix_c0, ix_c1, put_c0, put_c1, b_int, b_abs, b_lenT, b_lenL, b_tupL, b_tupT, b_lstL, b_lstT, b_lstS, b_min2, b_max2, someD_d, lcM_its, lcM_l, lcM_t, forM_its, forM_l, forM_t, WP_bind, guardR_t, bt_nm, bt_tp, bts_nil, bts_cons, wipe_nil, wipe_cons, tT0, tT1, tT2, tT3, tT4, tT5, tT6, tT7, tT8, tT9, tT10, tT11, tT12, tL0, tL1, tL2, tL3, tL4, tL5, tL6, tL7, tL8, tL9, tL10, tL11, tL12, tL13, tL14, tL15, tL16, opt_map_some, opt_bind_some, finF_d, finF_nx, List.getD_cons_zero, List.getD_cons_succ, List.set_cons_zero, List.set_cons_succ, List.map_cons, List.map_nil, List.length_cons, List.length_nil, List.cons_append, List.nil_append, List.replicate_succ, List.replicate_zero, Nat.reduceAdd, Nat.reduceSub, Nat.sub_self, ↓wz_lc2, ↓wz_lc2b, ↓wz_slJ, slF_i, slT_i, slB_i, slD_t, slD_l, lc2M_its, lc2M_l, lc2M_t, innL_its, innL_l, innL_t, isD_map, ↓wz_slF_int, ↓wz_slT_int, ↓wz_slB_int_int, ↓wz_slB_int_neg, ↓wz_slB_int_var, ↓wz_slB_int_bin, ↓wz_slB_int_ix, ↓wz_slF_neg, ↓wz_slT_neg, ↓wz_slB_neg_int, ↓wz_slB_neg_neg, ↓wz_slB_neg_var, ↓wz_slB_neg_bin, ↓wz_slB_neg_ix, ↓wz_slF_var, ↓wz_slT_var, ↓wz_slB_var_int, ↓wz_slB_var_neg, ↓wz_slB_var_var, ↓wz_slB_var_bin, ↓wz_slB_var_ix, ↓wz_slF_bin, ↓wz_slT_bin, ↓wz_slB_bin_int, ↓wz_slB_bin_neg, ↓wz_slB_bin_var, ↓wz_slB_bin_bin, ↓wz_slB_bin_ix, ↓wz_slF_ix, ↓wz_slT_ix, ↓wz_slB_ix_int, ↓wz_slB_ix_neg, ↓wz_slB_ix_var, ↓wz_slB_ix_bin, ↓wz_slB_ix_ix, ↓wz_slF_call, ↓wz_slT_call, ↓wz_slF_blt, ↓wz_slT_blt, ↓wz_lcn, ↓wz_lcc, ↓wz_forn, ↓wz_forc, consO_s, consO_n, forK_nx, forK_ct, forK_bk, forK_rt, c_isN, c_isnN, c_isT, c_isF, c_isnT, c_isnF, isNone_n, isNone_t, isNone_l, isNone_i, isNone_b, c_nel0, c_eql0, Bool.not_true, Bool.not_false, o_catL, o_catT, Nat.reduceLeDiff, ↓wz_mp, ↓wz_ms, layS_i, c_nes, c_eqs, b_gcd, ix_row _ ht'.1 ht'.2]
        refine WPB.if (fun h => ?_) (fun h => ?_)
        · simp only [↓WP_ok, ↓WPO_some, ↓WPB_t, ↓WPB_f, ↓WP_end, ↓pst_q, ↓pso_q, ↓pth_p, ↓WPO_map, ↓wz_var, ↓wz_int, ↓wz_bl, ↓wz_non, ↓wz_str, ↓wz_gi, ↓wz_bin, ↓wz_neg, ↓wz_cmp, ↓wz_cmp2, ↓wz_conj, ↓wz_disj, ↓wz_not, ↓wz_ite, ↓wz_tup, ↓wz_lst, ↓wz_ix, ↓wz_rev, ↓wz_nop, ↓wz_call, ↓wz_blt, ↓wz_isi, ↓wz_lc, ↓wz_lcO, ↓wz_rng, ↓wz_zip, ↓wz_lrg, ↓wz_sst, ↓wz_enm, ↓wz_get, ↓wz_get2, ↓wz_esn, ↓wz_esc, ↓wz_pn, ↓wz_pc, ↓wz_mv, ↓wz_ml, ↓wz_mk, ↓wz_mt, ↓wz_asg1, ↓wz_asgt, ↓wz_new, ↓wz_par, ↓wz_put, ↓wz_app, ↓wz_aug, ↓wz_ex, ↓wz_ifs, ↓wz_fors, ↓wz_forO, ↓wz_whl, ↓wz_ret, ↓wz_retL, ↓wz_ret0, ↓wz_brk, ↓wz_cont, ↓wz_pass, ↓wz_ssn, ↓wz_ssc, ↓wz_fb, ↓wz_lcb, negD_i, notD_b, revD_l, revD_t, isiD_d, layL_cup, layL_l, sA_nil, sA_cons, nxt_nx, nxt_rt, nxt_bk, nxt_ct, view_d, o_add, o_sub, c_lt, c_le, c_gt, c_ge, c_eqi, c_nei, ix_t0, ix_t1, ix_t2, ix_l0, ix_l1, ix_c0, ix_c1, put_c0, put_c1, b_int, b_abs, b_lenT, b_lenL, b_tupL, b_tupT, b_lstL, b_lstT, b_lstS, b_min2, b_max2, someD_d, lcM_its, lcM_l, lcM_t, forM_its, forM_l, forM_t, WP_bind, guardR_t, bt_nm, bt_tp, bts_nil, bts_cons, wipe_nil, wipe_cons, tT0, tT1, tT2, tT3, tT4, tT5, tT6, tT7, tT8, tT9, tT10, tT11, tT12, tL0, tL1, tL2, tL3, tL4, tL5, tL6, tL7, tL8, tL9, tL10, tL11, tL12, tL13, tL14, tL15, tL16, opt_map_some, opt_bind_some, finF_d, finF_nx, List.getD_cons_zero, List.getD_cons_succ, List.set_cons_zero, List.set_cons_succ, List.map_cons, List.map_nil, List.length_cons, List.length_nil, List.cons_append, List.nil_append, List.replicate_succ, List.replicate_zero, Nat.reduceAdd, Nat.reduceSub, Nat.sub_self, ↓wz_lc2, ↓wz_lc2b, ↓wz_slJ, slF_i, slT_i, slB_i, slD_t, slD_l, lc2M_its, lc2M_l, lc2M_t, innL_its, innL_l, innL_t, isD_map, ↓wz_slF_int, ↓wz_slT_int, ↓wz_slB_int_int, ↓wz_slB_int_neg, ↓wz_slB_int_var, ↓wz_slB_int_bin, ↓wz_slB_int_ix, ↓wz_slF_neg, ↓wz_slT_neg, ↓wz_slB_neg_int, ↓wz_slB_neg_neg, ↓wz_slB_neg_var, ↓wz_slB_neg_bin, ↓wz_slB_neg_ix, ↓wz_slF_var, ↓wz_slT_var, ↓wz_slB_var_int, ↓wz_slB_var_neg, ↓wz_slB_var_var, ↓wz_slB_var_bin, ↓wz_slB_var_ix, ↓wz_slF_bin, ↓wz_slT_bin, ↓wz_slB_bin_int, ↓wz_slB_bin_neg, ↓wz_slB_bin_var, ↓wz_slB_bin_bin, ↓wz_slB_bin_ix, ↓wz_slF_ix, ↓wz_slT_ix, ↓wz_slB_ix_int, ↓wz_slB_ix_neg, ↓wz_slB_ix_var, ↓wz_slB_ix_bin, ↓wz_slB_ix_ix, ↓wz_slF_call, ↓wz_slT_call, ↓wz_slF_blt, ↓wz_slT_blt, ↓wz_lcn, ↓wz_lcc, ↓wz_forn, ↓wz_forc, consO_s, consO_n, forK_nx, forK_ct, forK_bk, forK_rt, c_isN, c_isnN, c_isT, c_isF, c_isnT, c_isnF, isNone_n, isNone_t, isNone_l, isNone_i, isNone_b, c_nel0, c_eql0, Bool.not_true, Bool.not_false, o_catL, o_catT, Nat.reduceLeDiff, ↓wz_mp, ↓wz_ms, layS_i, c_nes, c_eqs, b_gcd, h, if_true, and_self]
        · simp only [↓WP_ok, ↓WPO_some, ↓WPB_t, ↓WPB_f, ↓WP_end, ↓pst_q, ↓pso_q, ↓pth_p, ↓WPO_map, ↓wz_var, ↓wz_int, ↓wz_bl, ↓wz_non, ↓wz_str, ↓wz_gi, ↓wz_bin, ↓wz_neg, ↓wz_cmp, ↓wz_cmp2, ↓wz_conj, ↓wz_disj, ↓wz_not, ↓wz_ite, ↓wz_tup, ↓wz_lst, ↓wz_ix, ↓wz_rev, ↓wz_nop, ↓wz_call, ↓wz_blt, ↓wz_isi, ↓wz_lc, ↓wz_lcO, ↓wz_rng, ↓wz_zip, ↓wz_lrg, ↓wz_sst, ↓wz_enm, ↓wz_get, ↓wz_get2, ↓wz_esn, ↓wz_esc, ↓wz_pn, ↓wz_pc, ↓wz_mv, ↓wz_ml, ↓wz_mk, ↓wz_mt, ↓wz_asg1, ↓wz_asgt, ↓wz_new, ↓wz_par, ↓wz_put, ↓wz_app, ↓wz_aug, ↓wz_ex, ↓wz_ifs, ↓wz_fors, ↓wz_forO, ↓wz_whl, ↓wz_ret, ↓wz_retL, ↓wz_ret0, ↓wz_brk, ↓wz_cont, ↓wz_pass, ↓wz_ssn, ↓wz_ssc, ↓wz_fb, ↓wz_lcb, negD_i, notD_b, revD_l, revD_t, isiD_d, layL_cup, layL_l, sA_nil, sA_cons, nxt_nx, nxt_rt, nxt_bk, nxt_ct, view_d, o_add, o_sub, c_lt, c_le, c_gt, c_ge, c_eqi, c_nei, ix_t0, ix_t1, ix_t2, ix_l0, ix_l1, ix_c0, ix_c1, put_c0, put_c1, b_int, b_abs, b_lenT, b_lenL, b_tupL, b_tupT, b_lstL, b_lstT, b_lstS, b_min2, b_max2, someD_d, lcM_its, lcM_l, lcM_t, forM_its, forM_l, forM_t, WP_bind, guardR_t, bt_nm, bt_tp, bts_nil, bts_cons, wipe_nil, wipe_cons, tT0, tT1, tT2, tT3, tT4, tT5, tT6, tT7, tT8, tT9, tT10, tT11, tT12, tL0, tL1, tL2, tL3, tL4, tL5, tL6, tL7, tL8, tL9, tL10, tL11, tL12, tL13, tL14, tL15, tL16, opt_map_some, opt_bind_some, finF_d, finF_nx, List.getD_cons_zero, List.getD_cons_succ, List.set_cons_zero, List.set_cons_succ, List.map_cons, List.map_nil, List.length_cons, List.length_nil, List.cons_append, List.nil_append, List.replicate_succ, List.replicate_zero, Nat.reduceAdd, Nat.reduceSub, Nat.sub_self, ↓wz_lc2, ↓wz_lc2b, ↓wz_slJ, slF_i, slT_i, slB_i, slD_t, slD_l, lc2M_its, lc2M_l, lc2M_t, innL_its, innL_l, innL_t, isD_map, ↓wz_slF_int, ↓wz_slT_int, ↓wz_slB_int_int, ↓wz_slB_int_neg, ↓wz_slB_int_var, ↓wz_slB_int_bin, ↓wz_slB_int_ix, ↓wz_slF_neg, ↓wz_slT_neg, ↓wz_slB_neg_int, ↓wz_slB_neg_neg, ↓wz_slB_neg_var, ↓wz_slB_neg_bin, ↓wz_slB_neg_ix, ↓wz_slF_var, ↓wz_slT_var, ↓wz_slB_var_int, ↓wz_slB_var_neg, ↓wz_slB_var_var, ↓wz_slB_var_bin, ↓wz_slB_var_ix, ↓wz_slF_bin, ↓wz_slT_bin, ↓wz_slB_bin_int, ↓wz_slB_bin_neg, ↓wz_slB_bin_var, ↓wz_slB_bin_bin, ↓wz_slB_bin_ix, ↓wz_slF_ix, ↓wz_slT_ix, ↓wz_slB_ix_int, ↓wz_slB_ix_neg, ↓wz_slB_ix_var, ↓wz_slB_ix_bin, ↓wz_slB_ix_ix, ↓wz_slF_call, ↓wz_slT_call, ↓wz_slF_blt, ↓wz_slT_blt, ↓wz_lcn, ↓wz_lcc, ↓wz_forn, ↓wz_forc, consO_s, consO_n, forK_nx, forK_ct, forK_bk, forK_rt, c_isN, c_isnN, c_isT, c_isF, c_isnT, c_isnF, isNone_n, isNone_t, isNone_l, isNone_i, isNone_b, c_nel0, c_eql0, Bool.not_true, Bool.not_false, o_catL, o_catT, Nat.reduceLeDiff, ↓wz_mp, ↓wz_ms, layS_i, c_nes, c_eqs, b_gcd, h, Bool.false_eq_true, if_false, and_self]
      simp only [↓WP_ok, ↓WPO_some, ↓WPB_t, ↓WPB_f, ↓WP_end, ↓pst_q, ↓pso_q, ↓pth_p, ↓WPO_map, ↓wz_var, ↓wz_int, ↓wz_bl, ↓wz_non, ↓wz_str, ↓wz_gi, ↓wz_bin, ↓wz_neg, ↓wz_cmp, ↓wz_cmp2, ↓wz_conj, ↓wz_disj, ↓wz_not, ↓wz_ite, ↓wz_tup, ↓wz_lst, ↓wz_ix, ↓wz_rev, ↓wz_nop, ↓wz_call, ↓wz_blt, ↓wz_isi, ↓wz_lc, ↓wz_lcO, ↓wz_rng, ↓wz_zip, ↓wz_lrg, ↓wz_sst, ↓wz_enm, ↓wz_get, ↓wz_get2, ↓wz_esn, ↓wz_esc, ↓wz_pn, ↓wz_pc, ↓wz_mv, ↓wz_ml, ↓wz_mk, ↓wz_mt, ↓wz_asg1, ↓wz_asgt, ↓wz_new, ↓wz_par, ↓wz_put, ↓wz_app, ↓wz_aug, ↓wz_ex, ↓wz_ifs, ↓wz_fors, ↓wz_forO, ↓wz_whl, ↓wz_ret, ↓wz_retL, ↓wz_ret0, ↓wz_brk, ↓wz_cont, ↓wz_pass, ↓wz_ssn, ↓wz_ssc, ↓wz_fb, ↓wz_lcb, negD_i, notD_b, revD_l, revD_t, isiD_d, layL_cup, layL_l, sA_nil, sA_cons, nxt_nx, nxt_rt, nxt_bk, nxt_ct, view_d, o_add, o_sub, c_lt, c_le, c_gt, c_ge, c_eqi, c_nei, ix_t0, ix_t1, ix_t2, ix_l0, ix_l1, ix_c0, ix_c1, put_c0, put_c1, b_int, b_abs, b_lenT, b_lenL, b_tupL, b_tupT, b_lstL, b_lstT, b_lstS, b_min2, b_max2, someD_d, lcM_its, lcM_l, lcM_t, forM_its, forM_l, forM_t, WP_bind, guardR_t, bt_nm, bt_tp, bts_nil, bts_cons, wipe_nil, wipe_cons, tT0, tT1, tT2, tT3, tT4, tT5, tT6, tT7, tT8, tT9, tT10, tT11, tT12, tL0, tL1, tL2, tL3, tL4, tL5, tL6, tL7, tL8, tL9, tL10, tL11, tL12, tL13, tL14, tL15, tL16, opt_map_some, opt_bind_some, finF_d, finF_nx, List.getD_cons_zero, List.getD_cons_succ, List.set_cons_zero, List.set_cons_succ, List.map_cons, List.map_nil, List.length_cons, List.length_nil, List.cons_append, List.nil_append, List.replicate_succ, List.replicate_zero, Nat.reduceAdd, Nat.reduceSub, Nat.sub_self, ↓wz_lc2, ↓wz_lc2b, ↓wz_slJ, slF_i, slT_i, slB_i, slD_t, slD_l, lc2M_its, lc2M_l, lc2M_t, innL_its, innL_l, innL_t, isD_map, ↓wz_slF_int, ↓wz_slT_int, ↓wz_slB_int_int, ↓wz_slB_int_neg, ↓wz_slB_int_var, ↓wz_slB_int_bin, ↓wz_slB_int_ix, ↓wz_slF_neg, ↓wz_slT_neg, ↓wz_slB_neg_int, ↓wz_slB_neg_neg, ↓wz_slB_neg_var, ↓wz_slB_neg_bin, ↓wz_slB_neg_ix, ↓wz_slF_var, ↓wz_slT_var, ↓wz_slB_var_int, ↓wz_slB_var_neg, ↓wz_slB_var_var, ↓wz_slB_var_bin, ↓wz_slB_var_ix, ↓wz_slF_bin, ↓wz_slT_bin, ↓wz_slB_bin_int, ↓wz_slB_bin_neg, ↓wz_slB_bin_var, ↓wz_slB_bin_bin, ↓wz_slB_bin_ix, ↓wz_slF_ix, ↓wz_slT_ix, ↓wz_slB_ix_int, ↓wz_slB_ix_neg, ↓wz_slB_ix_var, ↓wz_slB_ix_bin, ↓wz_slB_ix_ix, ↓wz_slF_call, ↓wz_slT_call, ↓wz_slF_blt, ↓wz_slT_blt, ↓wz_lcn, ↓wz_lcc, ↓wz_forn, ↓wz_forc, consO_s, consO_n, forK_nx, forK_ct, forK_bk, forK_rt, c_isN, c_isnN, c_isT, c_isF, c_isnT, c_isnF, isNone_n, isNone_t, isNone_l, isNone_i, isNone_b, c_nel0, c_eql0, Bool.not_true, Bool.not_false, o_catL, o_catT, Nat.reduceLeDiff, ↓wz_mp, ↓wz_ms, layS_i, c_nes, c_eqs, b_gcd]
      refine WP.same rfl rfl (pl_ints (flt_le _ _ (by decide))) ?_ ?_
      · exact Nat.le_trans (Nat.succ_le_succ (depth_ints _)) (by decide)
      simp only [↓WP_ok, ↓WPO_some, ↓WPB_t, ↓WPB_f, ↓WP_end, ↓pst_q, ↓pso_q, ↓pth_p, ↓WPO_map, ↓wz_var, ↓wz_int, ↓wz_bl, ↓wz_non, ↓wz_str, ↓wz_gi, ↓wz_bin, ↓wz_neg, ↓wz_cmp, ↓wz_cmp2, ↓wz_conj, ↓wz_disj, ↓wz_not, ↓wz_ite, ↓wz_tup, ↓wz_lst, ↓wz_ix, ↓wz_rev, ↓wz_nop, ↓wz_call, ↓wz_blt, ↓wz_isi, ↓wz_lc, ↓wz_lcO, ↓wz_rng, ↓wz_zip, ↓wz_lrg, ↓wz_sst, ↓wz_enm, ↓wz_get, ↓wz_get2, ↓wz_esn, ↓wz_esc, ↓wz_pn, ↓wz_pc, ↓wz_mv, ↓wz_ml, ↓wz_mk, ↓wz_mt, ↓wz_asg1, ↓wz_asgt, ↓wz_new, ↓wz_par, ↓wz_put, ↓wz_app, ↓wz_aug, ↓wz_ex, ↓wz_ifs, ↓wz_fors, ↓wz_forO, ↓wz_whl, ↓wz_ret, ↓wz_retL, ↓wz_ret0, ↓wz_brk, ↓wz_cont, ↓wz_pass, ↓wz_ssn, ↓wz_ssc, ↓wz_fb, ↓wz_lcb, negD_i, notD_b, revD_l, revD_t, isiD_d, layL_cup, layL_l, sA_nil, sA_cons, nxt_nx, nxt_rt, nxt_bk, nxt_ct, view_d, o_add, o_sub, c_lt, c_le, c_gt, c_ge, c_eqi, c_nei, ix_t0, ix_t1, ix_t2, ix_l0, ix_l1, ix_c0, ix_c1, put_c0, put_c1, b_int, b_abs, b_lenT, b_lenL, b_tupL, b_tupT, b_lstL, b_lstT, b_lstS, b_min2, b_max2, someD_d, lcM_its, lcM_l, lcM_t, forM_its, forM_l, forM_t, WP_bind, guardR_t, bt_nm, bt_tp, bts_nil, bts_cons, wipe_nil, wipe_cons, tT0, tT1, tT2, tT3, tT4, tT5, tT6, tT7, tT8, tT9, tT10, tT11, tT12, tL0, tL1, tL2, tL3, tL4, tL5, tL6, tL7, tL8, tL9, tL10, tL11, tL12, tL13, tL14, tL15, tL16, opt_map_some, opt_bind_some, finF_d, finF_nx, List.getD_cons_zero, List.getD_cons_succ, List.set_cons_zero, List.set_cons_succ, List.map_cons, List.map_nil, List.length_cons, List.length_nil, List.cons_append, List.nil_append, List.replicate_succ, List.replicate_zero, Nat.reduceAdd, Nat.reduceSub, Nat.sub_self, ↓wz_lc2, ↓wz_lc2b, ↓wz_slJ, slF_i, slT_i, slB_i, slD_t, slD_l, lc2M_its, lc2M_l, lc2M_t, innL_its, innL_l, innL_t, isD_map, ↓wz_slF_int, ↓wz_slT_int, ↓wz_slB_int_int, ↓wz_slB_int_neg, ↓wz_slB_int_var, ↓wz_slB_int_bin, ↓wz_slB_int_ix, ↓wz_slF_neg, ↓wz_slT_neg, ↓wz_slB_neg_int, ↓wz_slB_neg_neg, ↓wz_slB_neg_var, ↓wz_slB_neg_bin, ↓wz_slB_neg_ix, ↓wz_slF_var, ↓wz_slT_var, ↓wz_slB_var_int, ↓wz_slB_var_neg, ↓wz_slB_var_var, ↓wz_slB_var_bin, ↓wz_slB_var_ix, ↓wz_slF_bin, ↓wz_slT_bin, ↓wz_slB_bin_int, ↓wz_slB_bin_neg, ↓wz_slB_bin_var, ↓wz_slB_bin_bin, ↓wz_slB_bin_ix, ↓wz_slF_ix, ↓wz_slT_ix, ↓wz_slB_ix_int, ↓wz_slB_ix_neg, ↓wz_slB_ix_var, ↓wz_slB_ix_bin, ↓wz_slB_ix_ix, ↓wz_slF_call, ↓wz_slT_call, ↓wz_slF_blt, ↓wz_slT_blt, ↓wz_lcn, ↓wz_lcc, ↓wz_forn, ↓wz_forc, consO_s, consO_n, forK_nx, forK_ct, forK_bk, forK_rt, c_isN, c_isnN, c_isT, c_isF, c_isnT, c_isnF, isNone_n, isNone_t, isNone_l, isNone_i, isNone_b, c_nel0, c_eql0, Bool.not_true, Bool.not_false, o_catL, o_catT, Nat.reduceLeDiff, ↓wz_mp, ↓wz_ms, layS_i, c_nes, c_eqs, b_gcd, Bool.not_true]
      exact ⟨by trivial, by trivial, exO rfl⟩
    rintro ρ M ⟨rfl, o, rfl⟩
    have hT := seen_true hlot hne step
    simp only [↓WP_ok, ↓WPO_some, ↓WPB_t, ↓WPB_f, ↓WP_end, ↓pst_q, ↓pso_q, ↓pth_p, ↓WPO_map, ↓wz_var, ↓wz_int, ↓wz_bl, ↓wz_non, ↓wz_str, ↓wz_gi, ↓wz_bin, ↓wz_neg, ↓wz_cmp, ↓wz_cmp2, ↓wz_conj, ↓wz_disj, ↓wz_not, ↓wz_ite, ↓wz_tup, ↓wz_lst, ↓wz_ix, ↓wz_rev, ↓wz_nop, ↓wz_call, ↓wz_blt, ↓wz_isi, ↓wz_lc, ↓wz_lcO, ↓wz_rng, ↓wz_zip, ↓wz_lrg, ↓wz_sst, ↓wz_enm, ↓wz_get, ↓wz_get2, ↓wz_esn, ↓wz_esc, ↓wz_pn, ↓wz_pc, ↓wz_mv, ↓wz_ml, ↓wz_mk, ↓wz_mt, ↓wz_asg1, ↓wz_asgt, ↓wz_new, ↓wz_par, ↓wz_put, ↓wz_app, ↓wz_aug, ↓wz_ex, ↓wz_ifs, ↓wz_fors, ↓wz_forO, ↓wz_whl, ↓wz_ret, ↓wz_retL, ↓wz_ret0, ↓wz_brk, ↓wz_cont, ↓wz_pass, ↓wz_ssn, ↓wz_ssc, ↓wz_fb, ↓wz_lcb, negD_i, notD_b, revD_l, revD_t, isiD_d, layL_cup, layL_l, sA_nil, sA_cons, nxt_nx, nxt_rt, nxt_bk, nxt_ct, view_d, o_add, o_sub, c_lt, c_le, c_gt, c_ge, c_eqi, c_nei, ix_t0, ix_t1, ix_t2, ix_l0, ix_l1, ix_c0, ix_c1, put_c0, put_c1, b_int, b_abs, b_lenT, b_lenL, b_tupL, b_tupT, b_lstL, b_lstT, b_lstS, b_min2, b_max2, someD_d, lcM_its, lcM_l, lcM_t, forM_its, forM_l, forM_t, WP_bind, guardR_t, bt_nm, bt_tp, bts_nil, bts_cons, wipe_nil, wipe_cons, tT0, tT1, tT2, tT3, tT4, tT5, tT6, tT7, tT8, tT9, tT10, tT11, tT12, tL0, tL1, tL2, tL3, tL4, tL5, tL6, tL7, tL8, tL9, tL10, tL11, tL12, tL13, tL14, tL15, tL16, opt_map_some, opt_bind_some, finF_d, finF_nx, List.getD_cons_zero, List.getD_cons_succ, List.set_cons_zero, List.set_cons_succ, List.map_cons, List.map_nil, List.length_cons, List.length_nil, List.cons_append, List.nil_append, List.replicate_succ, List.replicate_zero, Nat.reduceAdd, Nat.reduceSub, Nat.sub_self, ↓wz_lc2, ↓wz_lc2b, ↓wz_slJ, slF_i, slT_i, slB_i, slD_t, slD_l, lc2M_its, lc2M_l, lc2M_t, innL_its, innL_l, innL_t, isD_map, ↓wz_slF_int, ↓wz_slT_int, ↓wz_slB_int_int, ↓wz_slB_int_neg, ↓wz_slB_int_var, ↓wz_slB_int_bin, ↓wz_slB_int_ix, ↓wz_slF_neg, ↓wz_slT_neg, ↓wz_slB_neg_int, ↓wz_slB_neg_neg, ↓wz_slB_neg_var, ↓wz_slB_neg_bin, ↓wz_slB_neg_ix, ↓wz_slF_var, ↓wz_slT_var, ↓wz_slB_var_int, ↓wz_slB_var_neg, ↓wz_slB_var_var, ↓wz_slB_var_bin, ↓wz_slB_var_ix, ↓wz_slF_bin, ↓wz_slT_bin, ↓wz_slB_bin_int, ↓wz_slB_bin_neg, ↓wz_slB_bin_var, ↓wz_slB_bin_bin, ↓wz_slB_bin_ix, ↓wz_slF_ix, ↓wz_slT_ix, ↓wz_slB_ix_int, ↓wz_slB_ix_neg, ↓wz_slB_ix_var, ↓wz_slB_ix_bin, ↓wz_slB_ix_ix, ↓wz_slF_call, ↓wz_slT_call, ↓wz_slF_blt, ↓wz_slT_blt, ↓wz_lcn, ↓wz_lcc, ↓wz_forn, ↓wz_forc, consO_s, consO_n, forK_nx, forK_ct, forK_bk, forK_rt, c_isN, c_isnN, c_isT, c_isF, c_isnT, c_isnF, isNone_n, isNone_t, isNone_l, isNone_i, isNone_b, c_nel0, c_eql0, Bool.not_true, Bool.not_false, o_catL, o_catT, Nat.reduceLeDiff, ↓wz_mp, ↓wz_ms, layS_i, c_nes, c_eqs, b_gcd]
    refine WP.eq (heights_ev (l := l) (by decide) hs24 hlot ht0 ht1 _) ?_
    rw [hrow_eq]
    simp only [↓WP_ok, ↓WPO_some, ↓WPB_t, ↓WPB_f, ↓WP_end, ↓pst_q, ↓pso_q, ↓pth_p, ↓WPO_map, ↓wz_var, ↓wz_int, ↓wz_bl, ↓wz_non, ↓wz_str, ↓wz_gi, ↓wz_bin, ↓wz_neg, ↓wz_cmp, ↓wz_cmp2, ↓wz_conj, ↓wz_disj, ↓wz_not, ↓wz_ite, ↓wz_tup, ↓wz_lst, ↓wz_ix, ↓wz_rev, ↓wz_nop, ↓wz_call, ↓wz_blt, ↓wz_isi, ↓wz_lc, ↓wz_lcO, ↓wz_rng, ↓wz_zip, ↓wz_lrg, ↓wz_sst, ↓wz_enm, ↓wz_get, ↓wz_get2, ↓wz_esn, ↓wz_esc, ↓wz_pn, ↓wz_pc, ↓wz_mv, ↓wz_ml, ↓wz_mk, ↓wz_mt, ↓wz_asg1, ↓wz_asgt, ↓wz_new, ↓wz_par, ↓wz_put, ↓wz_app, ↓wz_aug, ↓wz_ex, ↓wz_ifs, ↓wz_fors, ↓wz_forO, ↓wz_whl, ↓wz_ret, ↓wz_retL, ↓wz_ret0, ↓wz_brk, ↓wz_cont, ↓wz_pass, ↓wz_ssn, ↓wz_ssc, ↓wz_fb, ↓wz_lcb, negD_i, notD_b, revD_l, revD_t, isiD_d, layL_cup, layL_l, sA_nil, sA_cons, nxt_nx, nxt_rt, nxt_bk, nxt_ct, view_d, o_add, o_sub, c_lt, c_le, c_gt, c_ge, c_eqi, c_nei, ix_t0, ix_t1, ix_t2, ix_l0, ix_l1, ix_c0, ix_c1, put_c0, put_c1, b_int, b_abs, b_lenT, b_lenL, b_tupL, b_tupT, b_lstL, b_lstT, b_lstS, b_min2, b_max2, someD_d, lcM_its, lcM_l, lcM_t, forM_its, forM_l, forM_t, WP_bind, guardR_t, bt_nm, bt_tp, bts_nil, bts_cons, wipe_nil, wipe_cons, tT0, tT1, tT2, tT3, tT4, tT5, tT6, tT7, tT8, tT9, tT10, tT11, tT12, tL0, tL1, tL2, tL3, tL4, tL5, tL6, tL7, tL8, tL9, tL10, tL11, tL12, tL13, tL14, tL15, tL16, opt_map_some, opt_bind_some, finF_d, finF_nx, List.getD_cons_zero, List.getD_cons_succ, List.set_cons_zero, List.set_cons_succ, List.map_cons, List.map_nil, List.length_cons, List.length_nil, List.cons_append, List.nil_append, List.replicate_succ, List.replicate_zero, Nat.reduceAdd, Nat.reduceSub, Nat.sub_self, ↓wz_lc2, ↓wz_lc2b, ↓wz_slJ, slF_i, slT_i, slB_i, slD_t, slD_l, lc2M_its, lc2M_l, lc2M_t, innL_its, innL_l, innL_t, isD_map, ↓wz_slF_int, ↓wz_slT_int, ↓wz_slB_int_int, ↓wz_slB_int_neg, ↓wz_slB_int_var, ↓wz_slB_int_bin, ↓wz_slB_int_ix, ↓wz_slF_neg, ↓wz_slT_neg, ↓wz_slB_neg_int, ↓wz_slB_neg_neg, ↓wz_slB_neg_var, ↓wz_slB_neg_bin, ↓wz_slB_neg_ix, ↓wz_slF_var, ↓wz_slT_var, ↓wz_slB_var_int, ↓wz_slB_var_neg, ↓wz_slB_var_var, ↓wz_slB_var_bin, ↓wz_slB_var_ix, ↓wz_slF_bin, ↓wz_slT_bin, ↓wz_slB_bin_int, ↓wz_slB_bin_neg, ↓wz_slB_bin_var, ↓wz_slB_bin_bin, ↓wz_slB_bin_ix, ↓wz_slF_ix, ↓wz_slT_ix, ↓wz_slB_ix_int, ↓wz_slB_ix_neg, ↓wz_slB_ix_var, ↓wz_slB_ix_bin, ↓wz_slB_ix_ix, ↓wz_slF_call, ↓wz_slT_call, ↓wz_slF_blt, ↓wz_slT_blt, ↓wz_lcn, ↓wz_lcc, ↓wz_forn, ↓wz_forc, consO_s, consO_n, forK_nx, forK_ct, forK_bk, forK_rt, c_isN, c_isnN, c_isT, c_isF, c_isnT, c_isnF, isNone_n, isNone_t, isNone_l, isNone_i, isNone_b, c_nel0, c_eql0, Bool.not_true, Bool.not_false, o_catL, o_catT, Nat.reduceLeDiff, ↓wz_mp, ↓wz_ms, layS_i, c_nes, c_eqs, b_gcd]
    refine WP.eq (told_steps_ev (by decide) hs24 hT (by decide) (by decide) _) ?_
    simp only [↓WP_ok, ↓WPO_some, ↓WPB_t, ↓WPB_f, ↓WP_end, ↓pst_q, ↓pso_q, ↓pth_p, ↓WPO_map, ↓wz_var, ↓wz_int, ↓wz_bl, ↓wz_non, ↓wz_str, ↓wz_gi, ↓wz_bin, ↓wz_neg, ↓wz_cmp, ↓wz_cmp2, ↓wz_conj, ↓wz_disj, ↓wz_not, ↓wz_ite, ↓wz_tup, ↓wz_lst, ↓wz_ix, ↓wz_rev, ↓wz_nop, ↓wz_call, ↓wz_blt, ↓wz_isi, ↓wz_lc, ↓wz_lcO, ↓wz_rng, ↓wz_zip, ↓wz_lrg, ↓wz_sst, ↓wz_enm, ↓wz_get, ↓wz_get2, ↓wz_esn, ↓wz_esc, ↓wz_pn, ↓wz_pc, ↓wz_mv, ↓wz_ml, ↓wz_mk, ↓wz_mt, ↓wz_asg1, ↓wz_asgt, ↓wz_new, ↓wz_par, ↓wz_put, ↓wz_app, ↓wz_aug, ↓wz_ex, ↓wz_ifs, ↓wz_fors, ↓wz_forO, ↓wz_whl, ↓wz_ret, ↓wz_retL, ↓wz_ret0, ↓wz_brk, ↓wz_cont, ↓wz_pass, ↓wz_ssn, ↓wz_ssc, ↓wz_fb, ↓wz_lcb, negD_i, notD_b, revD_l, revD_t, isiD_d, layL_cup, layL_l, sA_nil, sA_cons, nxt_nx, nxt_rt, nxt_bk, nxt_ct, view_d, o_add, o_sub, c_lt, c_le, c_gt, c_ge, c_eqi, c_nei, ix_t0, ix_t1, ix_t2, ix_l0, ix_l1, ix_c0, ix_c1, put_c0, put_c1, b_int, b_abs, b_lenT, b_lenL, b_tupL, b_tupT, b_lstL, b_lstT, b_lstS, b_min2, b_max2, someD_d, lcM_its, lcM_l, lcM_t, forM_its, forM_l, forM_t, WP_bind, guardR_t, bt_nm, bt_tp, bts_nil, bts_cons, wipe_nil, wipe_cons, tT0, tT1, tT2, tT3, tT4, tT5, tT6, tT7, tT8, tT9, tT10, tT11, tT12, tL0, tL1, tL2, tL3, tL4, tL5, tL6, tL7, tL8, tL9, tL10, tL11, tL12, tL13, tL14, tL15, tL16, opt_map_some, opt_bind_some, finF_d, finF_nx, List.getD_cons_zero, List.getD_cons_succ, List.set_cons_zero, List.set_cons_succ, List.map_cons, List.map_nil, List.length_cons, List.length_nil, List.cons_append, List.nil_append, List.replicate_succ, List.replicate_zero, Nat.reduceAdd, Nat.reduceSub, Nat.sub_self, ↓wz_lc2, ↓wz_lc2b, ↓wz_slJ, slF_i, slT_i, slB_i, slD_t, slD_l, lc2M_its, lc2M_l, lc2M_t, innL_its, innL_l, innL_t, isD_map, ↓wz_slF_int, ↓wz_slT_int, ↓wz_slB_int_int, ↓wz_slB_int_neg, ↓wz_slB_int_var, ↓wz_slB_int_bin, ↓wz_slB_int_ix, ↓wz_slF_neg, ↓wz_slT_neg, ↓wz_slB_neg_int, ↓wz_slB_neg_neg, ↓wz_slB_neg_var, ↓wz_slB_neg_bin, ↓wz_slB_neg_ix, ↓wz_slF_var, ↓wz_slT_var, ↓wz_slB_var_int, ↓wz_slB_var_neg, ↓wz_slB_var_var, ↓wz_slB_var_bin, ↓wz_slB_var_ix, ↓wz_slF_bin, ↓wz_slT_bin, ↓wz_slB_bin_int, ↓wz_slB_bin_neg, ↓wz_slB_bin_var, ↓wz_slB_bin_bin, ↓wz_slB_bin_ix, ↓wz_slF_ix, ↓wz_slT_ix, ↓wz_slB_ix_int, ↓wz_slB_ix_neg, ↓wz_slB_ix_var, ↓wz_slB_ix_bin, ↓wz_slB_ix_ix, ↓wz_slF_call, ↓wz_slT_call, ↓wz_slF_blt, ↓wz_slT_blt, ↓wz_lcn, ↓wz_lcc, ↓wz_forn, ↓wz_forc, consO_s, consO_n, forK_nx, forK_ct, forK_bk, forK_rt, c_isN, c_isnN, c_isT, c_isF, c_isnT, c_isnF, isNone_n, isNone_t, isNone_l, isNone_i, isNone_b, c_nel0, c_eql0, Bool.not_true, Bool.not_false, o_catL, o_catT, Nat.reduceLeDiff, ↓wz_mp, ↓wz_ms, layS_i, c_nes, c_eqs, b_gcd, intD, c_ninT]
    refine WPB.F ?_ ?_
    · simp only [Bool.not_eq_false', decide_eq_true_eq]
      exact List.mem_filter.mpr ⟨mem_irange.mpr ⟨ht0, ht1⟩, decide_eq_true (off_true hne step)⟩
    simp only [↓WP_ok, ↓WPO_some, ↓WPB_t, ↓WPB_f, ↓WP_end, ↓pst_q, ↓pso_q, ↓pth_p, ↓WPO_map, ↓wz_var, ↓wz_int, ↓wz_bl, ↓wz_non, ↓wz_str, ↓wz_gi, ↓wz_bin, ↓wz_neg, ↓wz_cmp, ↓wz_cmp2, ↓wz_conj, ↓wz_disj, ↓wz_not, ↓wz_ite, ↓wz_tup, ↓wz_lst, ↓wz_ix, ↓wz_rev, ↓wz_nop, ↓wz_call, ↓wz_blt, ↓wz_isi, ↓wz_lc, ↓wz_lcO, ↓wz_rng, ↓wz_zip, ↓wz_lrg, ↓wz_sst, ↓wz_enm, ↓wz_get, ↓wz_get2, ↓wz_esn, ↓wz_esc, ↓wz_pn, ↓wz_pc, ↓wz_mv, ↓wz_ml, ↓wz_mk, ↓wz_mt, ↓wz_asg1, ↓wz_asgt, ↓wz_new, ↓wz_par, ↓wz_put, ↓wz_app, ↓wz_aug, ↓wz_ex, ↓wz_ifs, ↓wz_fors, ↓wz_forO, ↓wz_whl, ↓wz_ret, ↓wz_retL, ↓wz_ret0, ↓wz_brk, ↓wz_cont, ↓wz_pass, ↓wz_ssn, ↓wz_ssc, ↓wz_fb, ↓wz_lcb, negD_i, notD_b, revD_l, revD_t, isiD_d, layL_cup, layL_l, sA_nil, sA_cons, nxt_nx, nxt_rt, nxt_bk, nxt_ct, view_d, o_add, o_sub, c_lt, c_le, c_gt, c_ge, c_eqi, c_nei, ix_t0, ix_t1, ix_t2, ix_l0, ix_l1, ix_c0, ix_c1, put_c0, put_c1, b_int, b_abs, b_lenT, b_lenL, b_tupL, b_tupT, b_lstL, b_lstT, b_lstS, b_min2, b_max2, someD_d, lcM_its, lcM_l, lcM_t, forM_its, forM_l, forM_t, WP_bind, guardR_t, bt_nm, bt_tp, bts_nil, bts_cons, wipe_nil, wipe_cons, tT0, tT1, tT2, tT3, tT4, tT5, tT6, tT7, tT8, tT9, tT10, tT11, tT12, tL0, tL1, tL2, tL3, tL4, tL5, tL6, tL7, tL8, tL9, tL10, tL11, tL12, tL13, tL14, tL15, tL16, opt_map_some, opt_bind_some, finF_d, finF_nx, List.getD_cons_zero, List.getD_cons_succ, List.set_cons_zero, List.set_cons_succ, List.map_cons, List.map_nil, List.length_cons, List.length_nil, List.cons_append, List.nil_append, List.replicate_succ, List.replicate_zero, Nat.reduceAdd, Nat.reduceSub, Nat.sub_self, ↓wz_lc2, ↓wz_lc2b, ↓wz_slJ, slF_i, slT_i, slB_i, slD_t, slD_l, lc2M_its, lc2M_l, lc2M_t, innL_its, innL_l, innL_t, isD_map, ↓wz_slF_int, ↓wz_slT_int, ↓wz_slB_int_int, ↓wz_slB_int_neg, ↓wz_slB_int_var, ↓wz_slB_int_bin, ↓wz_slB_int_ix, ↓wz_slF_neg, ↓wz_slT_neg, ↓wz_slB_neg_int, ↓wz_slB_neg_neg, ↓wz_slB_neg_var, ↓wz_slB_neg_bin, ↓wz_slB_neg_ix, ↓wz_slF_var, ↓wz_slT_var, ↓wz_slB_var_int, ↓wz_slB_var_neg, ↓wz_slB_var_var, ↓wz_slB_var_bin, ↓wz_slB_var_ix, ↓wz_slF_bin, ↓wz_slT_bin, ↓wz_slB_bin_int, ↓wz_slB_bin_neg, ↓wz_slB_bin_var, ↓wz_slB_bin_bin, ↓wz_slB_bin_ix, ↓wz_slF_ix, ↓wz_slT_ix, ↓wz_slB_ix_int, ↓wz_slB_ix_neg, ↓wz_slB_ix_var, ↓wz_slB_ix_bin, ↓wz_slB_ix_ix, ↓wz_slF_call, ↓wz_slT_call, ↓wz_slF_blt, ↓wz_slT_blt, ↓wz_lcn, ↓wz_lcc, ↓wz_forn, ↓wz_forc, consO_s, consO_n, forK_nx, forK_ct, forK_bk, forK_rt, c_isN, c_isnN, c_isT, c_isF, c_isnT, c_isnF, isNone_n, isNone_t, isNone_l, isNone_i, isNone_b, c_nel0, c_eql0, Bool.not_true, Bool.not_false, o_catL, o_catT, Nat.reduceLeDiff, ↓wz_mp, ↓wz_ms, layS_i, c_nes, c_eqs, b_gcd]
    refine WP.eq (best_step_ev (by decide) hs24 hT _) ?_
    have hb0 : (bestF (offF sk (trueL sk l step))).1 = 0 := by
      obtain ⟨m, j, em, hj0, hj1, hjm, hall, hfst⟩ := least_at (offF sk (trueL sk l step))
      rw [best_is hj0 hj1 hjm hall hfst]
      have h1 := hall step ht0 ht1
      have h2 := off_true (sk := sk) hne step
      have h3 := off_nn (sk := sk) hT.ne j
      show m = 0
      omega
    rw [hb0]
    simp only [↓WP_ok, ↓WPO_some, ↓WPB_t, ↓WPB_f, ↓WP_end, ↓pst_q, ↓pso_q, ↓pth_p, ↓WPO_map, ↓wz_var, ↓wz_int, ↓wz_bl, ↓wz_non, ↓wz_str, ↓wz_gi, ↓wz_bin, ↓wz_neg, ↓wz_cmp, ↓wz_cmp2, ↓wz_conj, ↓wz_disj, ↓wz_not, ↓wz_ite, ↓wz_tup, ↓wz_lst, ↓wz_ix, ↓wz_rev, ↓wz_nop, ↓wz_call, ↓wz_blt, ↓wz_isi, ↓wz_lc, ↓wz_lcO, ↓wz_rng, ↓wz_zip, ↓wz_lrg, ↓wz_sst, ↓wz_enm, ↓wz_get, ↓wz_get2, ↓wz_esn, ↓wz_esc, ↓wz_pn, ↓wz_pc, ↓wz_mv, ↓wz_ml, ↓wz_mk, ↓wz_mt, ↓wz_asg1, ↓wz_asgt, ↓wz_new, ↓wz_par, ↓wz_put, ↓wz_app, ↓wz_aug, ↓wz_ex, ↓wz_ifs, ↓wz_fors, ↓wz_forO, ↓wz_whl, ↓wz_ret, ↓wz_retL, ↓wz_ret0, ↓wz_brk, ↓wz_cont, ↓wz_pass, ↓wz_ssn, ↓wz_ssc, ↓wz_fb, ↓wz_lcb, negD_i, notD_b, revD_l, revD_t, isiD_d, layL_cup, layL_l, sA_nil, sA_cons, nxt_nx, nxt_rt, nxt_bk, nxt_ct, view_d, o_add, o_sub, c_lt, c_le, c_gt, c_ge, c_eqi, c_nei, ix_t0, ix_t1, ix_t2, ix_l0, ix_l1, ix_c0, ix_c1, put_c0, put_c1, b_int, b_abs, b_lenT, b_lenL, b_tupL, b_tupT, b_lstL, b_lstT, b_lstS, b_min2, b_max2, someD_d, lcM_its, lcM_l, lcM_t, forM_its, forM_l, forM_t, WP_bind, guardR_t, bt_nm, bt_tp, bts_nil, bts_cons, wipe_nil, wipe_cons, tT0, tT1, tT2, tT3, tT4, tT5, tT6, tT7, tT8, tT9, tT10, tT11, tT12, tL0, tL1, tL2, tL3, tL4, tL5, tL6, tL7, tL8, tL9, tL10, tL11, tL12, tL13, tL14, tL15, tL16, opt_map_some, opt_bind_some, finF_d, finF_nx, List.getD_cons_zero, List.getD_cons_succ, List.set_cons_zero, List.set_cons_succ, List.map_cons, List.map_nil, List.length_cons, List.length_nil, List.cons_append, List.nil_append, List.replicate_succ, List.replicate_zero, Nat.reduceAdd, Nat.reduceSub, Nat.sub_self, ↓wz_lc2, ↓wz_lc2b, ↓wz_slJ, slF_i, slT_i, slB_i, slD_t, slD_l, lc2M_its, lc2M_l, lc2M_t, innL_its, innL_l, innL_t, isD_map, ↓wz_slF_int, ↓wz_slT_int, ↓wz_slB_int_int, ↓wz_slB_int_neg, ↓wz_slB_int_var, ↓wz_slB_int_bin, ↓wz_slB_int_ix, ↓wz_slF_neg, ↓wz_slT_neg, ↓wz_slB_neg_int, ↓wz_slB_neg_neg, ↓wz_slB_neg_var, ↓wz_slB_neg_bin, ↓wz_slB_neg_ix, ↓wz_slF_var, ↓wz_slT_var, ↓wz_slB_var_int, ↓wz_slB_var_neg, ↓wz_slB_var_var, ↓wz_slB_var_bin, ↓wz_slB_var_ix, ↓wz_slF_bin, ↓wz_slT_bin, ↓wz_slB_bin_int, ↓wz_slB_bin_neg, ↓wz_slB_bin_var, ↓wz_slB_bin_bin, ↓wz_slB_bin_ix, ↓wz_slF_ix, ↓wz_slT_ix, ↓wz_slB_ix_int, ↓wz_slB_ix_neg, ↓wz_slB_ix_var, ↓wz_slB_ix_bin, ↓wz_slB_ix_ix, ↓wz_slF_call, ↓wz_slT_call, ↓wz_slF_blt, ↓wz_slT_blt, ↓wz_lcn, ↓wz_lcc, ↓wz_forn, ↓wz_forc, consO_s, consO_n, forK_nx, forK_ct, forK_bk, forK_rt, c_isN, c_isnN, c_isT, c_isF, c_isnT, c_isnF, isNone_n, isNone_t, isNone_l, isNone_i, isNone_b, c_nel0, c_eql0, Bool.not_true, Bool.not_false, o_catL, o_catT, Nat.reduceLeDiff, ↓wz_mp, ↓wz_ms, layS_i, c_nes, c_eqs, b_gcd, decide_true, Bool.not_true]
    refine WP.eq (told_steps_ev (by decide) hs24 hT (by decide) (by decide) _) ?_
    simp only [↓WP_ok, ↓WPO_some, ↓WPB_t, ↓WPB_f, ↓WP_end, ↓pst_q, ↓pso_q, ↓pth_p, ↓WPO_map, ↓wz_var, ↓wz_int, ↓wz_bl, ↓wz_non, ↓wz_str, ↓wz_gi, ↓wz_bin, ↓wz_neg, ↓wz_cmp, ↓wz_cmp2, ↓wz_conj, ↓wz_disj, ↓wz_not, ↓wz_ite, ↓wz_tup, ↓wz_lst, ↓wz_ix, ↓wz_rev, ↓wz_nop, ↓wz_call, ↓wz_blt, ↓wz_isi, ↓wz_lc, ↓wz_lcO, ↓wz_rng, ↓wz_zip, ↓wz_lrg, ↓wz_sst, ↓wz_enm, ↓wz_get, ↓wz_get2, ↓wz_esn, ↓wz_esc, ↓wz_pn, ↓wz_pc, ↓wz_mv, ↓wz_ml, ↓wz_mk, ↓wz_mt, ↓wz_asg1, ↓wz_asgt, ↓wz_new, ↓wz_par, ↓wz_put, ↓wz_app, ↓wz_aug, ↓wz_ex, ↓wz_ifs, ↓wz_fors, ↓wz_forO, ↓wz_whl, ↓wz_ret, ↓wz_retL, ↓wz_ret0, ↓wz_brk, ↓wz_cont, ↓wz_pass, ↓wz_ssn, ↓wz_ssc, ↓wz_fb, ↓wz_lcb, negD_i, notD_b, revD_l, revD_t, isiD_d, layL_cup, layL_l, sA_nil, sA_cons, nxt_nx, nxt_rt, nxt_bk, nxt_ct, view_d, o_add, o_sub, c_lt, c_le, c_gt, c_ge, c_eqi, c_nei, ix_t0, ix_t1, ix_t2, ix_l0, ix_l1, ix_c0, ix_c1, put_c0, put_c1, b_int, b_abs, b_lenT, b_lenL, b_tupL, b_tupT, b_lstL, b_lstT, b_lstS, b_min2, b_max2, someD_d, lcM_its, lcM_l, lcM_t, forM_its, forM_l, forM_t, WP_bind, guardR_t, bt_nm, bt_tp, bts_nil, bts_cons, wipe_nil, wipe_cons, tT0, tT1, tT2, tT3, tT4, tT5, tT6, tT7, tT8, tT9, tT10, tT11, tT12, tL0, tL1, tL2, tL3, tL4, tL5, tL6, tL7, tL8, tL9, tL10, tL11, tL12, tL13, tL14, tL15, tL16, opt_map_some, opt_bind_some, finF_d, finF_nx, List.getD_cons_zero, List.getD_cons_succ, List.set_cons_zero, List.set_cons_succ, List.map_cons, List.map_nil, List.length_cons, List.length_nil, List.cons_append, List.nil_append, List.replicate_succ, List.replicate_zero, Nat.reduceAdd, Nat.reduceSub, Nat.sub_self, ↓wz_lc2, ↓wz_lc2b, ↓wz_slJ, slF_i, slT_i, slB_i, slD_t, slD_l, lc2M_its, lc2M_l, lc2M_t, innL_its, innL_l, innL_t, isD_map, ↓wz_slF_int, ↓wz_slT_int, ↓wz_slB_int_int, ↓wz_slB_int_neg, ↓wz_slB_int_var, ↓wz_slB_int_bin, ↓wz_slB_int_ix, ↓wz_slF_neg, ↓wz_slT_neg, ↓wz_slB_neg_int, ↓wz_slB_neg_neg, ↓wz_slB_neg_var, ↓wz_slB_neg_bin, ↓wz_slB_neg_ix, ↓wz_slF_var, ↓wz_slT_var, ↓wz_slB_var_int, ↓wz_slB_var_neg, ↓wz_slB_var_var, ↓wz_slB_var_bin, ↓wz_slB_var_ix, ↓wz_slF_bin, ↓wz_slT_bin, ↓wz_slB_bin_int, ↓wz_slB_bin_neg, ↓wz_slB_bin_var, ↓wz_slB_bin_bin, ↓wz_slB_bin_ix, ↓wz_slF_ix, ↓wz_slT_ix, ↓wz_slB_ix_int, ↓wz_slB_ix_neg, ↓wz_slB_ix_var, ↓wz_slB_ix_bin, ↓wz_slB_ix_ix, ↓wz_slF_call, ↓wz_slT_call, ↓wz_slF_blt, ↓wz_slT_blt, ↓wz_lcn, ↓wz_lcc, ↓wz_forn, ↓wz_forc, consO_s, consO_n, forK_nx, forK_ct, forK_bk, forK_rt, c_isN, c_isnN, c_isT, c_isF, c_isnT, c_isnF, isNone_n, isNone_t, isNone_l, isNone_i, isNone_b, c_nel0, c_eql0, Bool.not_true, Bool.not_false, o_catL, o_catT, Nat.reduceLeDiff, ↓wz_mp, ↓wz_ms, layS_i, c_nes, c_eqs, b_gcd, intD]
    refine WPB.F ?_ ?_
    · rw [decide_eq_false_iff_not, List.length_map]
      have := told_true hs hlot hne step
      omega
    simp only [↓WP_ok, ↓WPO_some, ↓WPB_t, ↓WPB_f, ↓WP_end, ↓pst_q, ↓pso_q, ↓pth_p, ↓WPO_map, ↓wz_var, ↓wz_int, ↓wz_bl, ↓wz_non, ↓wz_str, ↓wz_gi, ↓wz_bin, ↓wz_neg, ↓wz_cmp, ↓wz_cmp2, ↓wz_conj, ↓wz_disj, ↓wz_not, ↓wz_ite, ↓wz_tup, ↓wz_lst, ↓wz_ix, ↓wz_rev, ↓wz_nop, ↓wz_call, ↓wz_blt, ↓wz_isi, ↓wz_lc, ↓wz_lcO, ↓wz_rng, ↓wz_zip, ↓wz_lrg, ↓wz_sst, ↓wz_enm, ↓wz_get, ↓wz_get2, ↓wz_esn, ↓wz_esc, ↓wz_pn, ↓wz_pc, ↓wz_mv, ↓wz_ml, ↓wz_mk, ↓wz_mt, ↓wz_asg1, ↓wz_asgt, ↓wz_new, ↓wz_par, ↓wz_put, ↓wz_app, ↓wz_aug, ↓wz_ex, ↓wz_ifs, ↓wz_fors, ↓wz_forO, ↓wz_whl, ↓wz_ret, ↓wz_retL, ↓wz_ret0, ↓wz_brk, ↓wz_cont, ↓wz_pass, ↓wz_ssn, ↓wz_ssc, ↓wz_fb, ↓wz_lcb, negD_i, notD_b, revD_l, revD_t, isiD_d, layL_cup, layL_l, sA_nil, sA_cons, nxt_nx, nxt_rt, nxt_bk, nxt_ct, view_d, o_add, o_sub, c_lt, c_le, c_gt, c_ge, c_eqi, c_nei, ix_t0, ix_t1, ix_t2, ix_l0, ix_l1, ix_c0, ix_c1, put_c0, put_c1, b_int, b_abs, b_lenT, b_lenL, b_tupL, b_tupT, b_lstL, b_lstT, b_lstS, b_min2, b_max2, someD_d, lcM_its, lcM_l, lcM_t, forM_its, forM_l, forM_t, WP_bind, guardR_t, bt_nm, bt_tp, bts_nil, bts_cons, wipe_nil, wipe_cons, tT0, tT1, tT2, tT3, tT4, tT5, tT6, tT7, tT8, tT9, tT10, tT11, tT12, tL0, tL1, tL2, tL3, tL4, tL5, tL6, tL7, tL8, tL9, tL10, tL11, tL12, tL13, tL14, tL15, tL16, opt_map_some, opt_bind_some, finF_d, finF_nx, List.getD_cons_zero, List.getD_cons_succ, List.set_cons_zero, List.set_cons_succ, List.map_cons, List.map_nil, List.length_cons, List.length_nil, List.cons_append, List.nil_append, List.replicate_succ, List.replicate_zero, Nat.reduceAdd, Nat.reduceSub, Nat.sub_self, ↓wz_lc2, ↓wz_lc2b, ↓wz_slJ, slF_i, slT_i, slB_i, slD_t, slD_l, lc2M_its, lc2M_l, lc2M_t, innL_its, innL_l, innL_t, isD_map, ↓wz_slF_int, ↓wz_slT_int, ↓wz_slB_int_int, ↓wz_slB_int_neg, ↓wz_slB_int_var, ↓wz_slB_int_bin, ↓wz_slB_int_ix, ↓wz_slF_neg, ↓wz_slT_neg, ↓wz_slB_neg_int, ↓wz_slB_neg_neg, ↓wz_slB_neg_var, ↓wz_slB_neg_bin, ↓wz_slB_neg_ix, ↓wz_slF_var, ↓wz_slT_var, ↓wz_slB_var_int, ↓wz_slB_var_neg, ↓wz_slB_var_var, ↓wz_slB_var_bin, ↓wz_slB_var_ix, ↓wz_slF_bin, ↓wz_slT_bin, ↓wz_slB_bin_int, ↓wz_slB_bin_neg, ↓wz_slB_bin_var, ↓wz_slB_bin_bin, ↓wz_slB_bin_ix, ↓wz_slF_ix, ↓wz_slT_ix, ↓wz_slB_ix_int, ↓wz_slB_ix_neg, ↓wz_slB_ix_var, ↓wz_slB_ix_bin, ↓wz_slB_ix_ix, ↓wz_slF_call, ↓wz_slT_call, ↓wz_slF_blt, ↓wz_slT_blt, ↓wz_lcn, ↓wz_lcc, ↓wz_forn, ↓wz_forc, consO_s, consO_n, forK_nx, forK_ct, forK_bk, forK_rt, c_isN, c_isnN, c_isT, c_isF, c_isnT, c_isnF, isNone_n, isNone_t, isNone_l, isNone_i, isNone_b, c_nel0, c_eql0, Bool.not_true, Bool.not_false, o_catL, o_catT, Nat.reduceLeDiff, ↓wz_mp, ↓wz_ms, layS_i, c_nes, c_eqs, b_gcd]
    refine WP.eq (told_steps_ev (by decide) hs24 hS (by decide) (by decide) _) ?_
    simp only [↓WP_ok, ↓WPO_some, ↓WPB_t, ↓WPB_f, ↓WP_end, ↓pst_q, ↓pso_q, ↓pth_p, ↓WPO_map, ↓wz_var, ↓wz_int, ↓wz_bl, ↓wz_non, ↓wz_str, ↓wz_gi, ↓wz_bin, ↓wz_neg, ↓wz_cmp, ↓wz_cmp2, ↓wz_conj, ↓wz_disj, ↓wz_not, ↓wz_ite, ↓wz_tup, ↓wz_lst, ↓wz_ix, ↓wz_rev, ↓wz_nop, ↓wz_call, ↓wz_blt, ↓wz_isi, ↓wz_lc, ↓wz_lcO, ↓wz_rng, ↓wz_zip, ↓wz_lrg, ↓wz_sst, ↓wz_enm, ↓wz_get, ↓wz_get2, ↓wz_esn, ↓wz_esc, ↓wz_pn, ↓wz_pc, ↓wz_mv, ↓wz_ml, ↓wz_mk, ↓wz_mt, ↓wz_asg1, ↓wz_asgt, ↓wz_new, ↓wz_par, ↓wz_put, ↓wz_app, ↓wz_aug, ↓wz_ex, ↓wz_ifs, ↓wz_fors, ↓wz_forO, ↓wz_whl, ↓wz_ret, ↓wz_retL, ↓wz_ret0, ↓wz_brk, ↓wz_cont, ↓wz_pass, ↓wz_ssn, ↓wz_ssc, ↓wz_fb, ↓wz_lcb, negD_i, notD_b, revD_l, revD_t, isiD_d, layL_cup, layL_l, sA_nil, sA_cons, nxt_nx, nxt_rt, nxt_bk, nxt_ct, view_d, o_add, o_sub, c_lt, c_le, c_gt, c_ge, c_eqi, c_nei, ix_t0, ix_t1, ix_t2, ix_l0, ix_l1, ix_c0, ix_c1, put_c0, put_c1, b_int, b_abs, b_lenT, b_lenL, b_tupL, b_tupT, b_lstL, b_lstT, b_lstS, b_min2, b_max2, someD_d, lcM_its, lcM_l, lcM_t, forM_its, forM_l, forM_t, WP_bind, guardR_t, bt_nm, bt_tp, bts_nil, bts_cons, wipe_nil, wipe_cons, tT0, tT1, tT2, tT3, tT4, tT5, tT6, tT7, tT8, tT9, tT10, tT11, tT12, tL0, tL1, tL2, tL3, tL4, tL5, tL6, tL7, tL8, tL9, tL10, tL11, tL12, tL13, tL14, tL15, tL16, opt_map_some, opt_bind_some, finF_d, finF_nx, List.getD_cons_zero, List.getD_cons_succ, List.set_cons_zero, List.set_cons_succ, List.map_cons, List.map_nil, List.length_cons, List.length_nil, List.cons_append, List.nil_append, List.replicate_succ, List.replicate_zero, Nat.reduceAdd, Nat.reduceSub, Nat.sub_self, ↓wz_lc2, ↓wz_lc2b, ↓wz_slJ, slF_i, slT_i, slB_i, slD_t, slD_l, lc2M_its, lc2M_l, lc2M_t, innL_its, innL_l, innL_t, isD_map, ↓wz_slF_int, ↓wz_slT_int, ↓wz_slB_int_int, ↓wz_slB_int_neg, ↓wz_slB_int_var, ↓wz_slB_int_bin, ↓wz_slB_int_ix, ↓wz_slF_neg, ↓wz_slT_neg, ↓wz_slB_neg_int, ↓wz_slB_neg_neg, ↓wz_slB_neg_var, ↓wz_slB_neg_bin, ↓wz_slB_neg_ix, ↓wz_slF_var, ↓wz_slT_var, ↓wz_slB_var_int, ↓wz_slB_var_neg, ↓wz_slB_var_var, ↓wz_slB_var_bin, ↓wz_slB_var_ix, ↓wz_slF_bin, ↓wz_slT_bin, ↓wz_slB_bin_int, ↓wz_slB_bin_neg, ↓wz_slB_bin_var, ↓wz_slB_bin_bin, ↓wz_slB_bin_ix, ↓wz_slF_ix, ↓wz_slT_ix, ↓wz_slB_ix_int, ↓wz_slB_ix_neg, ↓wz_slB_ix_var, ↓wz_slB_ix_bin, ↓wz_slB_ix_ix, ↓wz_slF_call, ↓wz_slT_call, ↓wz_slF_blt, ↓wz_slT_blt, ↓wz_lcn, ↓wz_lcc, ↓wz_forn, ↓wz_forc, consO_s, consO_n, forK_nx, forK_ct, forK_bk, forK_rt, c_isN, c_isnN, c_isT, c_isF, c_isnT, c_isnF, isNone_n, isNone_t, isNone_l, isNone_i, isNone_b, c_nel0, c_eql0, Bool.not_true, Bool.not_false, o_catL, o_catT, Nat.reduceLeDiff, ↓wz_mp, ↓wz_ms, layS_i, c_nes, c_eqs, b_gcd, intD, List.length_map, told_all hS]
    refine WPB.F (by decide) ?_
    simp only [↓WP_ok, ↓WPO_some, ↓WPB_t, ↓WPB_f, ↓WP_end, ↓pst_q, ↓pso_q, ↓pth_p, ↓WPO_map, ↓wz_var, ↓wz_int, ↓wz_bl, ↓wz_non, ↓wz_str, ↓wz_gi, ↓wz_bin, ↓wz_neg, ↓wz_cmp, ↓wz_cmp2, ↓wz_conj, ↓wz_disj, ↓wz_not, ↓wz_ite, ↓wz_tup, ↓wz_lst, ↓wz_ix, ↓wz_rev, ↓wz_nop, ↓wz_call, ↓wz_blt, ↓wz_isi, ↓wz_lc, ↓wz_lcO, ↓wz_rng, ↓wz_zip, ↓wz_lrg, ↓wz_sst, ↓wz_enm, ↓wz_get, ↓wz_get2, ↓wz_esn, ↓wz_esc, ↓wz_pn, ↓wz_pc, ↓wz_mv, ↓wz_ml, ↓wz_mk, ↓wz_mt, ↓wz_asg1, ↓wz_asgt, ↓wz_new, ↓wz_par, ↓wz_put, ↓wz_app, ↓wz_aug, ↓wz_ex, ↓wz_ifs, ↓wz_fors, ↓wz_forO, ↓wz_whl, ↓wz_ret, ↓wz_retL, ↓wz_ret0, ↓wz_brk, ↓wz_cont, ↓wz_pass, ↓wz_ssn, ↓wz_ssc, ↓wz_fb, ↓wz_lcb, negD_i, notD_b, revD_l, revD_t, isiD_d, layL_cup, layL_l, sA_nil, sA_cons, nxt_nx, nxt_rt, nxt_bk, nxt_ct, view_d, o_add, o_sub, c_lt, c_le, c_gt, c_ge, c_eqi, c_nei, ix_t0, ix_t1, ix_t2, ix_l0, ix_l1, ix_c0, ix_c1, put_c0, put_c1, b_int, b_abs, b_lenT, b_lenL, b_tupL, b_tupT, b_lstL, b_lstT, b_lstS, b_min2, b_max2, someD_d, lcM_its, lcM_l, lcM_t, forM_its, forM_l, forM_t, WP_bind, guardR_t, bt_nm, bt_tp, bts_nil, bts_cons, wipe_nil, wipe_cons, tT0, tT1, tT2, tT3, tT4, tT5, tT6, tT7, tT8, tT9, tT10, tT11, tT12, tL0, tL1, tL2, tL3, tL4, tL5, tL6, tL7, tL8, tL9, tL10, tL11, tL12, tL13, tL14, tL15, tL16, opt_map_some, opt_bind_some, finF_d, finF_nx, List.getD_cons_zero, List.getD_cons_succ, List.set_cons_zero, List.set_cons_succ, List.map_cons, List.map_nil, List.length_cons, List.length_nil, List.cons_append, List.nil_append, List.replicate_succ, List.replicate_zero, Nat.reduceAdd, Nat.reduceSub, Nat.sub_self, ↓wz_lc2, ↓wz_lc2b, ↓wz_slJ, slF_i, slT_i, slB_i, slD_t, slD_l, lc2M_its, lc2M_l, lc2M_t, innL_its, innL_l, innL_t, isD_map, ↓wz_slF_int, ↓wz_slT_int, ↓wz_slB_int_int, ↓wz_slB_int_neg, ↓wz_slB_int_var, ↓wz_slB_int_bin, ↓wz_slB_int_ix, ↓wz_slF_neg, ↓wz_slT_neg, ↓wz_slB_neg_int, ↓wz_slB_neg_neg, ↓wz_slB_neg_var, ↓wz_slB_neg_bin, ↓wz_slB_neg_ix, ↓wz_slF_var, ↓wz_slT_var, ↓wz_slB_var_int, ↓wz_slB_var_neg, ↓wz_slB_var_var, ↓wz_slB_var_bin, ↓wz_slB_var_ix, ↓wz_slF_bin, ↓wz_slT_bin, ↓wz_slB_bin_int, ↓wz_slB_bin_neg, ↓wz_slB_bin_var, ↓wz_slB_bin_bin, ↓wz_slB_bin_ix, ↓wz_slF_ix, ↓wz_slT_ix, ↓wz_slB_ix_int, ↓wz_slB_ix_neg, ↓wz_slB_ix_var, ↓wz_slB_ix_bin, ↓wz_slB_ix_ix, ↓wz_slF_call, ↓wz_slT_call, ↓wz_slF_blt, ↓wz_slT_blt, ↓wz_lcn, ↓wz_lcc, ↓wz_forn, ↓wz_forc, consO_s, consO_n, forK_nx, forK_ct, forK_bk, forK_rt, c_isN, c_isnN, c_isT, c_isF, c_isnT, c_isnF, isNone_n, isNone_t, isNone_l, isNone_i, isNone_b, c_nel0, c_eql0, Bool.not_true, Bool.not_false, o_catL, o_catT, Nat.reduceLeDiff, ↓wz_mp, ↓wz_ms, layS_i, c_nes, c_eqs, b_gcd]
    refine WP.roll Kr (by decide) (by decide) (by decide) (fun b c hb0 hb1 => ?_)
    simp only [↓WP_ok, ↓WPO_some, ↓WPB_t, ↓WPB_f, ↓WP_end, ↓pst_q, ↓pso_q, ↓pth_p, ↓WPO_map, ↓wz_var, ↓wz_int, ↓wz_bl, ↓wz_non, ↓wz_str, ↓wz_gi, ↓wz_bin, ↓wz_neg, ↓wz_cmp, ↓wz_cmp2, ↓wz_conj, ↓wz_disj, ↓wz_not, ↓wz_ite, ↓wz_tup, ↓wz_lst, ↓wz_ix, ↓wz_rev, ↓wz_nop, ↓wz_call, ↓wz_blt, ↓wz_isi, ↓wz_lc, ↓wz_lcO, ↓wz_rng, ↓wz_zip, ↓wz_lrg, ↓wz_sst, ↓wz_enm, ↓wz_get, ↓wz_get2, ↓wz_esn, ↓wz_esc, ↓wz_pn, ↓wz_pc, ↓wz_mv, ↓wz_ml, ↓wz_mk, ↓wz_mt, ↓wz_asg1, ↓wz_asgt, ↓wz_new, ↓wz_par, ↓wz_put, ↓wz_app, ↓wz_aug, ↓wz_ex, ↓wz_ifs, ↓wz_fors, ↓wz_forO, ↓wz_whl, ↓wz_ret, ↓wz_retL, ↓wz_ret0, ↓wz_brk, ↓wz_cont, ↓wz_pass, ↓wz_ssn, ↓wz_ssc, ↓wz_fb, ↓wz_lcb, negD_i, notD_b, revD_l, revD_t, isiD_d, layL_cup, layL_l, sA_nil, sA_cons, nxt_nx, nxt_rt, nxt_bk, nxt_ct, view_d, o_add, o_sub, c_lt, c_le, c_gt, c_ge, c_eqi, c_nei, ix_t0, ix_t1, ix_t2, ix_l0, ix_l1, ix_c0, ix_c1, put_c0, put_c1, b_int, b_abs, b_lenT, b_lenL, b_tupL, b_tupT, b_lstL, b_lstT, b_lstS, b_min2, b_max2, someD_d, lcM_its, lcM_l, lcM_t, forM_its, forM_l, forM_t, WP_bind, guardR_t, bt_nm, bt_tp, bts_nil, bts_cons, wipe_nil, wipe_cons, tT0, tT1, tT2, tT3, tT4, tT5, tT6, tT7, tT8, tT9, tT10, tT11, tT12, tL0, tL1, tL2, tL3, tL4, tL5, tL6, tL7, tL8, tL9, tL10, tL11, tL12, tL13, tL14, tL15, tL16, opt_map_some, opt_bind_some, finF_d, finF_nx, List.getD_cons_zero, List.getD_cons_succ, List.set_cons_zero, List.set_cons_succ, List.map_cons, List.map_nil, List.length_cons, List.length_nil, List.cons_append, List.nil_append, List.replicate_succ, List.replicate_zero, Nat.reduceAdd, Nat.reduceSub, Nat.sub_self, ↓wz_lc2, ↓wz_lc2b, ↓wz_slJ, slF_i, slT_i, slB_i, slD_t, slD_l, lc2M_its, lc2M_l, lc2M_t, innL_its, innL_l, innL_t, isD_map, ↓wz_slF_int, ↓wz_slT_int, ↓wz_slB_int_int, ↓wz_slB_int_neg, ↓wz_slB_int_var, ↓wz_slB_int_bin, ↓wz_slB_int_ix, ↓wz_slF_neg, ↓wz_slT_neg, ↓wz_slB_neg_int, ↓wz_slB_neg_neg, ↓wz_slB_neg_var, ↓wz_slB_neg_bin, ↓wz_slB_neg_ix, ↓wz_slF_var, ↓wz_slT_var, ↓wz_slB_var_int, ↓wz_slB_var_neg, ↓wz_slB_var_var, ↓wz_slB_var_bin, ↓wz_slB_var_ix, ↓wz_slF_bin, ↓wz_slT_bin, ↓wz_slB_bin_int, ↓wz_slB_bin_neg, ↓wz_slB_bin_var, ↓wz_slB_bin_bin, ↓wz_slB_bin_ix, ↓wz_slF_ix, ↓wz_slT_ix, ↓wz_slB_ix_int, ↓wz_slB_ix_neg, ↓wz_slB_ix_var, ↓wz_slB_ix_bin, ↓wz_slB_ix_ix, ↓wz_slF_call, ↓wz_slT_call, ↓wz_slF_blt, ↓wz_slT_blt, ↓wz_lcn, ↓wz_lcc, ↓wz_forn, ↓wz_forc, consO_s, consO_n, forK_nx, forK_ct, forK_bk, forK_rt, c_isN, c_isnN, c_isT, c_isF, c_isnT, c_isnF, isNone_n, isNone_t, isNone_l, isNone_i, isNone_b, c_nel0, c_eql0, Bool.not_true, Bool.not_false, o_catL, o_catT, Nat.reduceLeDiff, ↓wz_mp, ↓wz_ms, layS_i, c_nes, c_eqs, b_gcd, intD]
    refine WPB.if (fun hall => ?_) (fun _ => ?_)
    · have hal : (ps.length : Int) = slen sk := by
        have := of_decide_eq_true hall
        rw [List.length_map] at this
        omega
      have ezip : pairs (sk.map fun p => PyData.tuple [.int p.1, .int p.2]) (ps.map fun p => PyData.tuple [.int p.1, .int p.2]) = (sk.zip ps).map fun q => D.d (.tuple [.tuple [.int q.1.1, .int q.1.2], .tuple [.int q.2.1, .int q.2.2]]) := pairs_map _ _ _ _
      have hsk := hs.len
      have hz : (pairs (sk.map fun p => PyData.tuple [.int p.1, .int p.2]) (ps.map fun p => PyData.tuple [.int p.1, .int p.2])).length ≤ 16777216 := by
        rw [ezip, List.length_map, List.length_zip]
        have := hs24.len
        omega
      simp only [↓WP_ok, ↓WPO_some, ↓WPB_t, ↓WPB_f, ↓WP_end, ↓pst_q, ↓pso_q, ↓pth_p, ↓WPO_map, ↓wz_var, ↓wz_int, ↓wz_bl, ↓wz_non, ↓wz_str, ↓wz_gi, ↓wz_bin, ↓wz_neg, ↓wz_cmp, ↓wz_cmp2, ↓wz_conj, ↓wz_disj, ↓wz_not, ↓wz_ite, ↓wz_tup, ↓wz_lst, ↓wz_ix, ↓wz_rev, ↓wz_nop, ↓wz_call, ↓wz_blt, ↓wz_isi, ↓wz_lc, ↓wz_lcO, ↓wz_rng, ↓wz_zip, ↓wz_lrg, ↓wz_sst, ↓wz_enm, ↓wz_get, ↓wz_get2, ↓wz_esn, ↓wz_esc, ↓wz_pn, ↓wz_pc, ↓wz_mv, ↓wz_ml, ↓wz_mk, ↓wz_mt, ↓wz_asg1, ↓wz_asgt, ↓wz_new, ↓wz_par, ↓wz_put, ↓wz_app, ↓wz_aug, ↓wz_ex, ↓wz_ifs, ↓wz_fors, ↓wz_forO, ↓wz_whl, ↓wz_ret, ↓wz_retL, ↓wz_ret0, ↓wz_brk, ↓wz_cont, ↓wz_pass, ↓wz_ssn, ↓wz_ssc, ↓wz_fb, ↓wz_lcb, negD_i, notD_b, revD_l, revD_t, isiD_d, layL_cup, layL_l, sA_nil, sA_cons, nxt_nx, nxt_rt, nxt_bk, nxt_ct, view_d, o_add, o_sub, c_lt, c_le, c_gt, c_ge, c_eqi, c_nei, ix_t0, ix_t1, ix_t2, ix_l0, ix_l1, ix_c0, ix_c1, put_c0, put_c1, b_int, b_abs, b_lenT, b_lenL, b_tupL, b_tupT, b_lstL, b_lstT, b_lstS, b_min2, b_max2, someD_d, lcM_its, lcM_l, lcM_t, forM_its, forM_l, forM_t, WP_bind, guardR_t, bt_nm, bt_tp, bts_nil, bts_cons, wipe_nil, wipe_cons, tT0, tT1, tT2, tT3, tT4, tT5, tT6, tT7, tT8, tT9, tT10, tT11, tT12, tL0, tL1, tL2, tL3, tL4, tL5, tL6, tL7, tL8, tL9, tL10, tL11, tL12, tL13, tL14, tL15, tL16, opt_map_some, opt_bind_some, finF_d, finF_nx, List.getD_cons_zero, List.getD_cons_succ, List.set_cons_zero, List.set_cons_succ, List.map_cons, List.map_nil, List.length_cons, List.length_nil, List.cons_append, List.nil_append, List.replicate_succ, List.replicate_zero, Nat.reduceAdd, Nat.reduceSub, Nat.sub_self, ↓wz_lc2, ↓wz_lc2b, ↓wz_slJ, slF_i, slT_i, slB_i, slD_t, slD_l, lc2M_its, lc2M_l, lc2M_t, innL_its, innL_l, innL_t, isD_map, ↓wz_slF_int, ↓wz_slT_int, ↓wz_slB_int_int, ↓wz_slB_int_neg, ↓wz_slB_int_var, ↓wz_slB_int_bin, ↓wz_slB_int_ix, ↓wz_slF_neg, ↓wz_slT_neg, ↓wz_slB_neg_int, ↓wz_slB_neg_neg, ↓wz_slB_neg_var, ↓wz_slB_neg_bin, ↓wz_slB_neg_ix, ↓wz_slF_var, ↓wz_slT_var, ↓wz_slB_var_int, ↓wz_slB_var_neg, ↓wz_slB_var_var, ↓wz_slB_var_bin, ↓wz_slB_var_ix, ↓wz_slF_bin, ↓wz_slT_bin, ↓wz_slB_bin_int, ↓wz_slB_bin_neg, ↓wz_slB_bin_var, ↓wz_slB_bin_bin, ↓wz_slB_bin_ix, ↓wz_slF_ix, ↓wz_slT_ix, ↓wz_slB_ix_int, ↓wz_slB_ix_neg, ↓wz_slB_ix_var, ↓wz_slB_ix_bin, ↓wz_slB_ix_ix, ↓wz_slF_call, ↓wz_slT_call, ↓wz_slF_blt, ↓wz_slT_blt, ↓wz_lcn, ↓wz_lcc, ↓wz_forn, ↓wz_forc, consO_s, consO_n, forK_nx, forK_ct, forK_bk, forK_rt, c_isN, c_isnN, c_isT, c_isF, c_isnT, c_isnF, isNone_n, isNone_t, isNone_l, isNone_i, isNone_b, c_nel0, c_eql0, Bool.not_true, Bool.not_false, o_catL, o_catT, Nat.reduceLeDiff, ↓wz_mp, ↓wz_ms, layS_i, c_nes, c_eqs, b_gcd, skyD, seenD, zip_t _ hz, ezip]
      refine WP.lcA (fun q => .tuple [.int ((q.1.1 + b) % 360), .int q.1.2, .int q.2.2]) (fun q hq => ?_) ?_
      · simp only [↓WP_ok, ↓WPO_some, ↓WPB_t, ↓WPB_f, ↓WP_end, ↓pst_q, ↓pso_q, ↓pth_p, ↓WPO_map, ↓wz_var, ↓wz_int, ↓wz_bl, ↓wz_non, ↓wz_str, ↓wz_gi, ↓wz_bin, ↓wz_neg, ↓wz_cmp, ↓wz_cmp2, ↓wz_conj, ↓wz_disj, ↓wz_not, ↓wz_ite, ↓wz_tup, ↓wz_lst, ↓wz_ix, ↓wz_rev, ↓wz_nop, ↓wz_call, ↓wz_blt, ↓wz_isi, ↓wz_lc, ↓wz_lcO, ↓wz_rng, ↓wz_zip, ↓wz_lrg, ↓wz_sst, ↓wz_enm, ↓wz_get, ↓wz_get2, ↓wz_esn, ↓wz_esc, ↓wz_pn, ↓wz_pc, ↓wz_mv, ↓wz_ml, ↓wz_mk, ↓wz_mt, ↓wz_asg1, ↓wz_asgt, ↓wz_new, ↓wz_par, ↓wz_put, ↓wz_app, ↓wz_aug, ↓wz_ex, ↓wz_ifs, ↓wz_fors, ↓wz_forO, ↓wz_whl, ↓wz_ret, ↓wz_retL, ↓wz_ret0, ↓wz_brk, ↓wz_cont, ↓wz_pass, ↓wz_ssn, ↓wz_ssc, ↓wz_fb, ↓wz_lcb, negD_i, notD_b, revD_l, revD_t, isiD_d, layL_cup, layL_l, sA_nil, sA_cons, nxt_nx, nxt_rt, nxt_bk, nxt_ct, view_d, o_add, o_sub, c_lt, c_le, c_gt, c_ge, c_eqi, c_nei, ix_t0, ix_t1, ix_t2, ix_l0, ix_l1, ix_c0, ix_c1, put_c0, put_c1, b_int, b_abs, b_lenT, b_lenL, b_tupL, b_tupT, b_lstL, b_lstT, b_lstS, b_min2, b_max2, someD_d, lcM_its, lcM_l, lcM_t, forM_its, forM_l, forM_t, WP_bind, guardR_t, bt_nm, bt_tp, bts_nil, bts_cons, wipe_nil, wipe_cons, tT0, tT1, tT2, tT3, tT4, tT5, tT6, tT7, tT8, tT9, tT10, tT11, tT12, tL0, tL1, tL2, tL3, tL4, tL5, tL6, tL7, tL8, tL9, tL10, tL11, tL12, tL13, tL14, tL15, tL16, opt_map_some, opt_bind_some, finF_d, finF_nx, List.getD_cons_zero, List.getD_cons_succ, List.set_cons_zero, List.set_cons_succ, List.map_cons, List.map_nil, List.length_cons, List.length_nil, List.cons_append, List.nil_append, List.replicate_succ, List.replicate_zero, Nat.reduceAdd, Nat.reduceSub, Nat.sub_self, ↓wz_lc2, ↓wz_lc2b, ↓wz_slJ, slF_i, slT_i, slB_i, slD_t, slD_l, lc2M_its, lc2M_l, lc2M_t, innL_its, innL_l, innL_t, isD_map, ↓wz_slF_int, ↓wz_slT_int, ↓wz_slB_int_int, ↓wz_slB_int_neg, ↓wz_slB_int_var, ↓wz_slB_int_bin, ↓wz_slB_int_ix, ↓wz_slF_neg, ↓wz_slT_neg, ↓wz_slB_neg_int, ↓wz_slB_neg_neg, ↓wz_slB_neg_var, ↓wz_slB_neg_bin, ↓wz_slB_neg_ix, ↓wz_slF_var, ↓wz_slT_var, ↓wz_slB_var_int, ↓wz_slB_var_neg, ↓wz_slB_var_var, ↓wz_slB_var_bin, ↓wz_slB_var_ix, ↓wz_slF_bin, ↓wz_slT_bin, ↓wz_slB_bin_int, ↓wz_slB_bin_neg, ↓wz_slB_bin_var, ↓wz_slB_bin_bin, ↓wz_slB_bin_ix, ↓wz_slF_ix, ↓wz_slT_ix, ↓wz_slB_ix_int, ↓wz_slB_ix_neg, ↓wz_slB_ix_var, ↓wz_slB_ix_bin, ↓wz_slB_ix_ix, ↓wz_slF_call, ↓wz_slT_call, ↓wz_slF_blt, ↓wz_slT_blt, ↓wz_lcn, ↓wz_lcc, ↓wz_forn, ↓wz_forc, consO_s, consO_n, forK_nx, forK_ct, forK_bk, forK_rt, c_isN, c_isnN, c_isT, c_isF, c_isnT, c_isnF, isNone_n, isNone_t, isNone_l, isNone_i, isNone_b, c_nel0, c_eql0, Bool.not_true, Bool.not_false, o_catL, o_catT, Nat.reduceLeDiff, ↓wz_mp, ↓wz_ms, layS_i, c_nes, c_eqs, b_gcd, o_mod _ (show (0 : Int) < 360 by decide)]
        exact ⟨by trivial, by trivial⟩
      have erows : (sk.zip ps).map (fun q => PyData.tuple [.int ((q.1.1 + b) % 360), .int q.1.2, .int q.2.2]) = (rowsT sk ps b).map fun x => Datum.toD (tri x) := by
        unfold rowsT
        rw [List.map_map]
        rfl
      have hrl : (rowsT sk ps b).length ≤ 24 := by
        unfold rowsT
        rw [List.length_map, List.length_zip]
        have := hs24.len
        omega
      have hsl : (rowsS sk ps b).length ≤ 24 := by rw [(rowsS_perm sk ps b).length_eq]; exact hrl
      have bs := fun M => b_sorted tri (rowsT sk ps b) M (by decide) (by
        rw [Bool.or_eq_true]
        left
        rw [List.all_eq_true]
        intro x hx
        obtain ⟨a, _, rfl⟩ := List.mem_map.mp hx
        rfl) (by omega)
      rw [erows]
      simp only [↓WP_ok, ↓WPO_some, ↓WPB_t, ↓WPB_f, ↓WP_end, ↓pst_q, ↓pso_q, ↓pth_p, ↓WPO_map, ↓wz_var, ↓wz_int, ↓wz_bl, ↓wz_non, ↓wz_str, ↓wz_gi, ↓wz_bin, ↓wz_neg, ↓wz_cmp, ↓wz_cmp2, ↓wz_conj, ↓wz_disj, ↓wz_not, ↓wz_ite, ↓wz_tup, ↓wz_lst, ↓wz_ix, ↓wz_rev, ↓wz_nop, ↓wz_call, ↓wz_blt, ↓wz_isi, ↓wz_lc, ↓wz_lcO, ↓wz_rng, ↓wz_zip, ↓wz_lrg, ↓wz_sst, ↓wz_enm, ↓wz_get, ↓wz_get2, ↓wz_esn, ↓wz_esc, ↓wz_pn, ↓wz_pc, ↓wz_mv, ↓wz_ml, ↓wz_mk, ↓wz_mt, ↓wz_asg1, ↓wz_asgt, ↓wz_new, ↓wz_par, ↓wz_put, ↓wz_app, ↓wz_aug, ↓wz_ex, ↓wz_ifs, ↓wz_fors, ↓wz_forO, ↓wz_whl, ↓wz_ret, ↓wz_retL, ↓wz_ret0, ↓wz_brk, ↓wz_cont, ↓wz_pass, ↓wz_ssn, ↓wz_ssc, ↓wz_fb, ↓wz_lcb, negD_i, notD_b, revD_l, revD_t, isiD_d, layL_cup, layL_l, sA_nil, sA_cons, nxt_nx, nxt_rt, nxt_bk, nxt_ct, view_d, o_add, o_sub, c_lt, c_le, c_gt, c_ge, c_eqi, c_nei, ix_t0, ix_t1, ix_t2, ix_l0, ix_l1, ix_c0, ix_c1, put_c0, put_c1, b_int, b_abs, b_lenT, b_lenL, b_tupL, b_tupT, b_lstL, b_lstT, b_lstS, b_min2, b_max2, someD_d, lcM_its, lcM_l, lcM_t, forM_its, forM_l, forM_t, WP_bind, guardR_t, bt_nm, bt_tp, bts_nil, bts_cons, wipe_nil, wipe_cons, tT0, tT1, tT2, tT3, tT4, tT5, tT6, tT7, tT8, tT9, tT10, tT11, tT12, tL0, tL1, tL2, tL3, tL4, tL5, tL6, tL7, tL8, tL9, tL10, tL11, tL12, tL13, tL14, tL15, tL16, opt_map_some, opt_bind_some, finF_d, finF_nx, List.getD_cons_zero, List.getD_cons_succ, List.set_cons_zero, List.set_cons_succ, List.map_cons, List.map_nil, List.length_cons, List.length_nil, List.cons_append, List.nil_append, List.replicate_succ, List.replicate_zero, Nat.reduceAdd, Nat.reduceSub, Nat.sub_self, ↓wz_lc2, ↓wz_lc2b, ↓wz_slJ, slF_i, slT_i, slB_i, slD_t, slD_l, lc2M_its, lc2M_l, lc2M_t, innL_its, innL_l, innL_t, isD_map, ↓wz_slF_int, ↓wz_slT_int, ↓wz_slB_int_int, ↓wz_slB_int_neg, ↓wz_slB_int_var, ↓wz_slB_int_bin, ↓wz_slB_int_ix, ↓wz_slF_neg, ↓wz_slT_neg, ↓wz_slB_neg_int, ↓wz_slB_neg_neg, ↓wz_slB_neg_var, ↓wz_slB_neg_bin, ↓wz_slB_neg_ix, ↓wz_slF_var, ↓wz_slT_var, ↓wz_slB_var_int, ↓wz_slB_var_neg, ↓wz_slB_var_var, ↓wz_slB_var_bin, ↓wz_slB_var_ix, ↓wz_slF_bin, ↓wz_slT_bin, ↓wz_slB_bin_int, ↓wz_slB_bin_neg, ↓wz_slB_bin_var, ↓wz_slB_bin_bin, ↓wz_slB_bin_ix, ↓wz_slF_ix, ↓wz_slT_ix, ↓wz_slB_ix_int, ↓wz_slB_ix_neg, ↓wz_slB_ix_var, ↓wz_slB_ix_bin, ↓wz_slB_ix_ix, ↓wz_slF_call, ↓wz_slT_call, ↓wz_slF_blt, ↓wz_slT_blt, ↓wz_lcn, ↓wz_lcc, ↓wz_forn, ↓wz_forc, consO_s, consO_n, forK_nx, forK_ct, forK_bk, forK_rt, c_isN, c_isnN, c_isT, c_isF, c_isnT, c_isnF, isNone_n, isNone_t, isNone_l, isNone_i, isNone_b, c_nel0, c_eql0, Bool.not_true, Bool.not_false, o_catL, o_catT, Nat.reduceLeDiff, ↓wz_mp, ↓wz_ms, layS_i, c_nes, c_eqs, b_gcd, bs]
      rw [List.map_map]
      refine WP.lcA (fun x => .tuple [.int x.1, .int x.2.1]) (fun x hx => ?_) ?_
      · simp only [↓WP_ok, ↓WPO_some, ↓WPB_t, ↓WPB_f, ↓WP_end, ↓pst_q, ↓pso_q, ↓pth_p, ↓WPO_map, ↓wz_var, ↓wz_int, ↓wz_bl, ↓wz_non, ↓wz_str, ↓wz_gi, ↓wz_bin, ↓wz_neg, ↓wz_cmp, ↓wz_cmp2, ↓wz_conj, ↓wz_disj, ↓wz_not, ↓wz_ite, ↓wz_tup, ↓wz_lst, ↓wz_ix, ↓wz_rev, ↓wz_nop, ↓wz_call, ↓wz_blt, ↓wz_isi, ↓wz_lc, ↓wz_lcO, ↓wz_rng, ↓wz_zip, ↓wz_lrg, ↓wz_sst, ↓wz_enm, ↓wz_get, ↓wz_get2, ↓wz_esn, ↓wz_esc, ↓wz_pn, ↓wz_pc, ↓wz_mv, ↓wz_ml, ↓wz_mk, ↓wz_mt, ↓wz_asg1, ↓wz_asgt, ↓wz_new, ↓wz_par, ↓wz_put, ↓wz_app, ↓wz_aug, ↓wz_ex, ↓wz_ifs, ↓wz_fors, ↓wz_forO, ↓wz_whl, ↓wz_ret, ↓wz_retL, ↓wz_ret0, ↓wz_brk, ↓wz_cont, ↓wz_pass, ↓wz_ssn, ↓wz_ssc, ↓wz_fb, ↓wz_lcb, negD_i, notD_b, revD_l, revD_t, isiD_d, layL_cup, layL_l, sA_nil, sA_cons, nxt_nx, nxt_rt, nxt_bk, nxt_ct, view_d, o_add, o_sub, c_lt, c_le, c_gt, c_ge, c_eqi, c_nei, ix_t0, ix_t1, ix_t2, ix_l0, ix_l1, ix_c0, ix_c1, put_c0, put_c1, b_int, b_abs, b_lenT, b_lenL, b_tupL, b_tupT, b_lstL, b_lstT, b_lstS, b_min2, b_max2, someD_d, lcM_its, lcM_l, lcM_t, forM_its, forM_l, forM_t, WP_bind, guardR_t, bt_nm, bt_tp, bts_nil, bts_cons, wipe_nil, wipe_cons, tT0, tT1, tT2, tT3, tT4, tT5, tT6, tT7, tT8, tT9, tT10, tT11, tT12, tL0, tL1, tL2, tL3, tL4, tL5, tL6, tL7, tL8, tL9, tL10, tL11, tL12, tL13, tL14, tL15, tL16, opt_map_some, opt_bind_some, finF_d, finF_nx, List.getD_cons_zero, List.getD_cons_succ, List.set_cons_zero, List.set_cons_succ, List.map_cons, List.map_nil, List.length_cons, List.length_nil, List.cons_append, List.nil_append, List.replicate_succ, List.replicate_zero, Nat.reduceAdd, Nat.reduceSub, Nat.sub_self, ↓wz_lc2, ↓wz_lc2b, ↓wz_slJ, slF_i, slT_i, slB_i, slD_t, slD_l, lc2M_its, lc2M_l, lc2M_t, innL_its, innL_l, innL_t, isD_map, ↓wz_slF_int, ↓wz_slT_int, ↓wz_slB_int_int, ↓wz_slB_int_neg, ↓wz_slB_int_var, ↓wz_slB_int_bin, ↓wz_slB_int_ix, ↓wz_slF_neg, ↓wz_slT_neg, ↓wz_slB_neg_int, ↓wz_slB_neg_neg, ↓wz_slB_neg_var, ↓wz_slB_neg_bin, ↓wz_slB_neg_ix, ↓wz_slF_var, ↓wz_slT_var, ↓wz_slB_var_int, ↓wz_slB_var_neg, ↓wz_slB_var_var, ↓wz_slB_var_bin, ↓wz_slB_var_ix, ↓wz_slF_bin, ↓wz_slT_bin, ↓wz_slB_bin_int, ↓wz_slB_bin_neg, ↓wz_slB_bin_var, ↓wz_slB_bin_bin, ↓wz_slB_bin_ix, ↓wz_slF_ix, ↓wz_slT_ix, ↓wz_slB_ix_int, ↓wz_slB_ix_neg, ↓wz_slB_ix_var, ↓wz_slB_ix_bin, ↓wz_slB_ix_ix, ↓wz_slF_call, ↓wz_slT_call, ↓wz_slF_blt, ↓wz_slT_blt, ↓wz_lcn, ↓wz_lcc, ↓wz_forn, ↓wz_forc, consO_s, consO_n, forK_nx, forK_ct, forK_bk, forK_rt, c_isN, c_isnN, c_isT, c_isF, c_isnT, c_isnF, isNone_n, isNone_t, isNone_l, isNone_i, isNone_b, c_nel0, c_eql0, Bool.not_true, Bool.not_false, o_catL, o_catT, Nat.reduceLeDiff, ↓wz_mp, ↓wz_ms, layS_i, c_nes, c_eqs, b_gcd, Function.comp, tri_toD1, cut_toZ _ (show (0 : Int) ≤ 2 by decide)]
        exact ⟨rfl, by trivial⟩
      simp only [↓WP_ok, ↓WPO_some, ↓WPB_t, ↓WPB_f, ↓WP_end, ↓pst_q, ↓pso_q, ↓pth_p, ↓WPO_map, ↓wz_var, ↓wz_int, ↓wz_bl, ↓wz_non, ↓wz_str, ↓wz_gi, ↓wz_bin, ↓wz_neg, ↓wz_cmp, ↓wz_cmp2, ↓wz_conj, ↓wz_disj, ↓wz_not, ↓wz_ite, ↓wz_tup, ↓wz_lst, ↓wz_ix, ↓wz_rev, ↓wz_nop, ↓wz_call, ↓wz_blt, ↓wz_isi, ↓wz_lc, ↓wz_lcO, ↓wz_rng, ↓wz_zip, ↓wz_lrg, ↓wz_sst, ↓wz_enm, ↓wz_get, ↓wz_get2, ↓wz_esn, ↓wz_esc, ↓wz_pn, ↓wz_pc, ↓wz_mv, ↓wz_ml, ↓wz_mk, ↓wz_mt, ↓wz_asg1, ↓wz_asgt, ↓wz_new, ↓wz_par, ↓wz_put, ↓wz_app, ↓wz_aug, ↓wz_ex, ↓wz_ifs, ↓wz_fors, ↓wz_forO, ↓wz_whl, ↓wz_ret, ↓wz_retL, ↓wz_ret0, ↓wz_brk, ↓wz_cont, ↓wz_pass, ↓wz_ssn, ↓wz_ssc, ↓wz_fb, ↓wz_lcb, negD_i, notD_b, revD_l, revD_t, isiD_d, layL_cup, layL_l, sA_nil, sA_cons, nxt_nx, nxt_rt, nxt_bk, nxt_ct, view_d, o_add, o_sub, c_lt, c_le, c_gt, c_ge, c_eqi, c_nei, ix_t0, ix_t1, ix_t2, ix_l0, ix_l1, ix_c0, ix_c1, put_c0, put_c1, b_int, b_abs, b_lenT, b_lenL, b_tupL, b_tupT, b_lstL, b_lstT, b_lstS, b_min2, b_max2, someD_d, lcM_its, lcM_l, lcM_t, forM_its, forM_l, forM_t, WP_bind, guardR_t, bt_nm, bt_tp, bts_nil, bts_cons, wipe_nil, wipe_cons, tT0, tT1, tT2, tT3, tT4, tT5, tT6, tT7, tT8, tT9, tT10, tT11, tT12, tL0, tL1, tL2, tL3, tL4, tL5, tL6, tL7, tL8, tL9, tL10, tL11, tL12, tL13, tL14, tL15, tL16, opt_map_some, opt_bind_some, finF_d, finF_nx, List.getD_cons_zero, List.getD_cons_succ, List.set_cons_zero, List.set_cons_succ, List.map_cons, List.map_nil, List.length_cons, List.length_nil, List.cons_append, List.nil_append, List.replicate_succ, List.replicate_zero, Nat.reduceAdd, Nat.reduceSub, Nat.sub_self, ↓wz_lc2, ↓wz_lc2b, ↓wz_slJ, slF_i, slT_i, slB_i, slD_t, slD_l, lc2M_its, lc2M_l, lc2M_t, innL_its, innL_l, innL_t, isD_map, ↓wz_slF_int, ↓wz_slT_int, ↓wz_slB_int_int, ↓wz_slB_int_neg, ↓wz_slB_int_var, ↓wz_slB_int_bin, ↓wz_slB_int_ix, ↓wz_slF_neg, ↓wz_slT_neg, ↓wz_slB_neg_int, ↓wz_slB_neg_neg, ↓wz_slB_neg_var, ↓wz_slB_neg_bin, ↓wz_slB_neg_ix, ↓wz_slF_var, ↓wz_slT_var, ↓wz_slB_var_int, ↓wz_slB_var_neg, ↓wz_slB_var_var, ↓wz_slB_var_bin, ↓wz_slB_var_ix, ↓wz_slF_bin, ↓wz_slT_bin, ↓wz_slB_bin_int, ↓wz_slB_bin_neg, ↓wz_slB_bin_var, ↓wz_slB_bin_bin, ↓wz_slB_bin_ix, ↓wz_slF_ix, ↓wz_slT_ix, ↓wz_slB_ix_int, ↓wz_slB_ix_neg, ↓wz_slB_ix_var, ↓wz_slB_ix_bin, ↓wz_slB_ix_ix, ↓wz_slF_call, ↓wz_slT_call, ↓wz_slF_blt, ↓wz_slT_blt, ↓wz_lcn, ↓wz_lcc, ↓wz_forn, ↓wz_forc, consO_s, consO_n, forK_nx, forK_ct, forK_bk, forK_rt, c_isN, c_isnN, c_isT, c_isF, c_isnT, c_isnF, isNone_n, isNone_t, isNone_l, isNone_i, isNone_b, c_nel0, c_eql0, Bool.not_true, Bool.not_false, o_catL, o_catT, Nat.reduceLeDiff, ↓wz_mp, ↓wz_ms, layS_i, c_nes, c_eqs, b_gcd, enm_l _ (show ((srtB tri (rowsT sk ps b)).map fun x => Datum.toD (tri x)).length ≤ 16777216 by rw [List.length_map]; exact Nat.le_trans hsl (by decide)), nums_map]
      refine WP.lcA (fun q => .tuple [.int (q.2 : Nat), .int q.1.2.2]) (fun q hq => ?_) ?_
      · simp only [↓WP_ok, ↓WPO_some, ↓WPB_t, ↓WPB_f, ↓WP_end, ↓pst_q, ↓pso_q, ↓pth_p, ↓WPO_map, ↓wz_var, ↓wz_int, ↓wz_bl, ↓wz_non, ↓wz_str, ↓wz_gi, ↓wz_bin, ↓wz_neg, ↓wz_cmp, ↓wz_cmp2, ↓wz_conj, ↓wz_disj, ↓wz_not, ↓wz_ite, ↓wz_tup, ↓wz_lst, ↓wz_ix, ↓wz_rev, ↓wz_nop, ↓wz_call, ↓wz_blt, ↓wz_isi, ↓wz_lc, ↓wz_lcO, ↓wz_rng, ↓wz_zip, ↓wz_lrg, ↓wz_sst, ↓wz_enm, ↓wz_get, ↓wz_get2, ↓wz_esn, ↓wz_esc, ↓wz_pn, ↓wz_pc, ↓wz_mv, ↓wz_ml, ↓wz_mk, ↓wz_mt, ↓wz_asg1, ↓wz_asgt, ↓wz_new, ↓wz_par, ↓wz_put, ↓wz_app, ↓wz_aug, ↓wz_ex, ↓wz_ifs, ↓wz_fors, ↓wz_forO, ↓wz_whl, ↓wz_ret, ↓wz_retL, ↓wz_ret0, ↓wz_brk, ↓wz_cont, ↓wz_pass, ↓wz_ssn, ↓wz_ssc, ↓wz_fb, ↓wz_lcb, negD_i, notD_b, revD_l, revD_t, isiD_d, layL_cup, layL_l, sA_nil, sA_cons, nxt_nx, nxt_rt, nxt_bk, nxt_ct, view_d, o_add, o_sub, c_lt, c_le, c_gt, c_ge, c_eqi, c_nei, ix_t0, ix_t1, ix_t2, ix_l0, ix_l1, ix_c0, ix_c1, put_c0, put_c1, b_int, b_abs, b_lenT, b_lenL, b_tupL, b_tupT, b_lstL, b_lstT, b_lstS, b_min2, b_max2, someD_d, lcM_its, lcM_l, lcM_t, forM_its, forM_l, forM_t, WP_bind, guardR_t, bt_nm, bt_tp, bts_nil, bts_cons, wipe_nil, wipe_cons, tT0, tT1, tT2, tT3, tT4, tT5, tT6, tT7, tT8, tT9, tT10, tT11, tT12, tL0, tL1, tL2, tL3, tL4, tL5, tL6, tL7, tL8, tL9, tL10, tL11, tL12, tL13, tL14, tL15, tL16, opt_map_some, opt_bind_some, finF_d, finF_nx, List.getD_cons_zero, List.getD_cons_succ, List.set_cons_zero, List.set_cons_succ, List.map_cons, List.map_nil, List.length_cons, List.length_nil, List.cons_append, List.nil_append, List.replicate_succ, List.replicate_zero, Nat.reduceAdd, Nat.reduceSub, Nat.sub_self, ↓wz_lc2, ↓wz_lc2b, ↓wz_slJ, slF_i, slT_i, slB_i, slD_t, slD_l, lc2M_its, lc2M_l, lc2M_t, innL_its, innL_l, innL_t, isD_map, ↓wz_slF_int, ↓wz_slT_int, ↓wz_slB_int_int, ↓wz_slB_int_neg, ↓wz_slB_int_var, ↓wz_slB_int_bin, ↓wz_slB_int_ix, ↓wz_slF_neg, ↓wz_slT_neg, ↓wz_slB_neg_int, ↓wz_slB_neg_neg, ↓wz_slB_neg_var, ↓wz_slB_neg_bin, ↓wz_slB_neg_ix, ↓wz_slF_var, ↓wz_slT_var, ↓wz_slB_var_int, ↓wz_slB_var_neg, ↓wz_slB_var_var, ↓wz_slB_var_bin, ↓wz_slB_var_ix, ↓wz_slF_bin, ↓wz_slT_bin, ↓wz_slB_bin_int, ↓wz_slB_bin_neg, ↓wz_slB_bin_var, ↓wz_slB_bin_bin, ↓wz_slB_bin_ix, ↓wz_slF_ix, ↓wz_slT_ix, ↓wz_slB_ix_int, ↓wz_slB_ix_neg, ↓wz_slB_ix_var, ↓wz_slB_ix_bin, ↓wz_slB_ix_ix, ↓wz_slF_call, ↓wz_slT_call, ↓wz_slF_blt, ↓wz_slT_blt, ↓wz_lcn, ↓wz_lcc, ↓wz_forn, ↓wz_forc, consO_s, consO_n, forK_nx, forK_ct, forK_bk, forK_rt, c_isN, c_isnN, c_isT, c_isF, c_isnT, c_isnF, isNone_n, isNone_t, isNone_l, isNone_i, isNone_b, c_nel0, c_eql0, Bool.not_true, Bool.not_false, o_catL, o_catT, Nat.reduceLeDiff, ↓wz_mp, ↓wz_ms, layS_i, c_nes, c_eqs, b_gcd, Function.comp, tri_toD1]
        exact ⟨by trivial, by trivial⟩
      simp only [↓WP_ok, ↓WPO_some, ↓WPB_t, ↓WPB_f, ↓WP_end, ↓pst_q, ↓pso_q, ↓pth_p, ↓WPO_map, ↓wz_var, ↓wz_int, ↓wz_bl, ↓wz_non, ↓wz_str, ↓wz_gi, ↓wz_bin, ↓wz_neg, ↓wz_cmp, ↓wz_cmp2, ↓wz_conj, ↓wz_disj, ↓wz_not, ↓wz_ite, ↓wz_tup, ↓wz_lst, ↓wz_ix, ↓wz_rev, ↓wz_nop, ↓wz_call, ↓wz_blt, ↓wz_isi, ↓wz_lc, ↓wz_lcO, ↓wz_rng, ↓wz_zip, ↓wz_lrg, ↓wz_sst, ↓wz_enm, ↓wz_get, ↓wz_get2, ↓wz_esn, ↓wz_esc, ↓wz_pn, ↓wz_pc, ↓wz_mv, ↓wz_ml, ↓wz_mk, ↓wz_mt, ↓wz_asg1, ↓wz_asgt, ↓wz_new, ↓wz_par, ↓wz_put, ↓wz_app, ↓wz_aug, ↓wz_ex, ↓wz_ifs, ↓wz_fors, ↓wz_forO, ↓wz_whl, ↓wz_ret, ↓wz_retL, ↓wz_ret0, ↓wz_brk, ↓wz_cont, ↓wz_pass, ↓wz_ssn, ↓wz_ssc, ↓wz_fb, ↓wz_lcb, negD_i, notD_b, revD_l, revD_t, isiD_d, layL_cup, layL_l, sA_nil, sA_cons, nxt_nx, nxt_rt, nxt_bk, nxt_ct, view_d, o_add, o_sub, c_lt, c_le, c_gt, c_ge, c_eqi, c_nei, ix_t0, ix_t1, ix_t2, ix_l0, ix_l1, ix_c0, ix_c1, put_c0, put_c1, b_int, b_abs, b_lenT, b_lenL, b_tupL, b_tupT, b_lstL, b_lstT, b_lstS, b_min2, b_max2, someD_d, lcM_its, lcM_l, lcM_t, forM_its, forM_l, forM_t, WP_bind, guardR_t, bt_nm, bt_tp, bts_nil, bts_cons, wipe_nil, wipe_cons, tT0, tT1, tT2, tT3, tT4, tT5, tT6, tT7, tT8, tT9, tT10, tT11, tT12, tL0, tL1, tL2, tL3, tL4, tL5, tL6, tL7, tL8, tL9, tL10, tL11, tL12, tL13, tL14, tL15, tL16, opt_map_some, opt_bind_some, finF_d, finF_nx, List.getD_cons_zero, List.getD_cons_succ, List.set_cons_zero, List.set_cons_succ, List.map_cons, List.map_nil, List.length_cons, List.length_nil, List.cons_append, List.nil_append, List.replicate_succ, List.replicate_zero, Nat.reduceAdd, Nat.reduceSub, Nat.sub_self, ↓wz_lc2, ↓wz_lc2b, ↓wz_slJ, slF_i, slT_i, slB_i, slD_t, slD_l, lc2M_its, lc2M_l, lc2M_t, innL_its, innL_l, innL_t, isD_map, ↓wz_slF_int, ↓wz_slT_int, ↓wz_slB_int_int, ↓wz_slB_int_neg, ↓wz_slB_int_var, ↓wz_slB_int_bin, ↓wz_slB_int_ix, ↓wz_slF_neg, ↓wz_slT_neg, ↓wz_slB_neg_int, ↓wz_slB_neg_neg, ↓wz_slB_neg_var, ↓wz_slB_neg_bin, ↓wz_slB_neg_ix, ↓wz_slF_var, ↓wz_slT_var, ↓wz_slB_var_int, ↓wz_slB_var_neg, ↓wz_slB_var_var, ↓wz_slB_var_bin, ↓wz_slB_var_ix, ↓wz_slF_bin, ↓wz_slT_bin, ↓wz_slB_bin_int, ↓wz_slB_bin_neg, ↓wz_slB_bin_var, ↓wz_slB_bin_bin, ↓wz_slB_bin_ix, ↓wz_slF_ix, ↓wz_slT_ix, ↓wz_slB_ix_int, ↓wz_slB_ix_neg, ↓wz_slB_ix_var, ↓wz_slB_ix_bin, ↓wz_slB_ix_ix, ↓wz_slF_call, ↓wz_slT_call, ↓wz_slF_blt, ↓wz_slT_blt, ↓wz_lcn, ↓wz_lcc, ↓wz_forn, ↓wz_forc, consO_s, consO_n, forK_nx, forK_ct, forK_bk, forK_rt, c_isN, c_isnN, c_isT, c_isF, c_isnT, c_isnF, isNone_n, isNone_t, isNone_l, isNone_i, isNone_b, c_nel0, c_eql0, Bool.not_true, Bool.not_false, o_catL, o_catT, Nat.reduceLeDiff, ↓wz_mp, ↓wz_ms, layS_i, c_nes, c_eqs, b_gcd]
      have hST := sky_turned (b := b) hs24 hal
      have hSeT := seen_turned hS b hal
      have e1 : PyData.tuple ((srtB tri (rowsT sk ps b)).map fun x => .tuple [.int x.1, .int x.2.1]) = skyD (skyT (rowsS sk ps b)) := (skyT_D _).symm
      have e2 : PyData.tuple ((srtB tri (rowsT sk ps b)).zipIdx.map fun q => .tuple [.int (q.2 : Nat), .int q.1.2.2]) = seenD (seenT (rowsS sk ps b)) := (seenT_D _).symm
      have e3 : PyData.tuple (sk.map fun p => .tuple [.int p.1, .int p.2]) = skyD sk := rfl
      rw [e1, e2]
      refine WP.eq (told_steps_ev (by decide) hST hSeT (by decide) (by decide) _) ?_
      simp only [↓WP_ok, ↓WPO_some, ↓WPB_t, ↓WPB_f, ↓WP_end, ↓pst_q, ↓pso_q, ↓pth_p, ↓WPO_map, ↓wz_var, ↓wz_int, ↓wz_bl, ↓wz_non, ↓wz_str, ↓wz_gi, ↓wz_bin, ↓wz_neg, ↓wz_cmp, ↓wz_cmp2, ↓wz_conj, ↓wz_disj, ↓wz_not, ↓wz_ite, ↓wz_tup, ↓wz_lst, ↓wz_ix, ↓wz_rev, ↓wz_nop, ↓wz_call, ↓wz_blt, ↓wz_isi, ↓wz_lc, ↓wz_lcO, ↓wz_rng, ↓wz_zip, ↓wz_lrg, ↓wz_sst, ↓wz_enm, ↓wz_get, ↓wz_get2, ↓wz_esn, ↓wz_esc, ↓wz_pn, ↓wz_pc, ↓wz_mv, ↓wz_ml, ↓wz_mk, ↓wz_mt, ↓wz_asg1, ↓wz_asgt, ↓wz_new, ↓wz_par, ↓wz_put, ↓wz_app, ↓wz_aug, ↓wz_ex, ↓wz_ifs, ↓wz_fors, ↓wz_forO, ↓wz_whl, ↓wz_ret, ↓wz_retL, ↓wz_ret0, ↓wz_brk, ↓wz_cont, ↓wz_pass, ↓wz_ssn, ↓wz_ssc, ↓wz_fb, ↓wz_lcb, negD_i, notD_b, revD_l, revD_t, isiD_d, layL_cup, layL_l, sA_nil, sA_cons, nxt_nx, nxt_rt, nxt_bk, nxt_ct, view_d, o_add, o_sub, c_lt, c_le, c_gt, c_ge, c_eqi, c_nei, ix_t0, ix_t1, ix_t2, ix_l0, ix_l1, ix_c0, ix_c1, put_c0, put_c1, b_int, b_abs, b_lenT, b_lenL, b_tupL, b_tupT, b_lstL, b_lstT, b_lstS, b_min2, b_max2, someD_d, lcM_its, lcM_l, lcM_t, forM_its, forM_l, forM_t, WP_bind, guardR_t, bt_nm, bt_tp, bts_nil, bts_cons, wipe_nil, wipe_cons, tT0, tT1, tT2, tT3, tT4, tT5, tT6, tT7, tT8, tT9, tT10, tT11, tT12, tL0, tL1, tL2, tL3, tL4, tL5, tL6, tL7, tL8, tL9, tL10, tL11, tL12, tL13, tL14, tL15, tL16, opt_map_some, opt_bind_some, finF_d, finF_nx, List.getD_cons_zero, List.getD_cons_succ, List.set_cons_zero, List.set_cons_succ, List.map_cons, List.map_nil, List.length_cons, List.length_nil, List.cons_append, List.nil_append, List.replicate_succ, List.replicate_zero, Nat.reduceAdd, Nat.reduceSub, Nat.sub_self, ↓wz_lc2, ↓wz_lc2b, ↓wz_slJ, slF_i, slT_i, slB_i, slD_t, slD_l, lc2M_its, lc2M_l, lc2M_t, innL_its, innL_l, innL_t, isD_map, ↓wz_slF_int, ↓wz_slT_int, ↓wz_slB_int_int, ↓wz_slB_int_neg, ↓wz_slB_int_var, ↓wz_slB_int_bin, ↓wz_slB_int_ix, ↓wz_slF_neg, ↓wz_slT_neg, ↓wz_slB_neg_int, ↓wz_slB_neg_neg, ↓wz_slB_neg_var, ↓wz_slB_neg_bin, ↓wz_slB_neg_ix, ↓wz_slF_var, ↓wz_slT_var, ↓wz_slB_var_int, ↓wz_slB_var_neg, ↓wz_slB_var_var, ↓wz_slB_var_bin, ↓wz_slB_var_ix, ↓wz_slF_bin, ↓wz_slT_bin, ↓wz_slB_bin_int, ↓wz_slB_bin_neg, ↓wz_slB_bin_var, ↓wz_slB_bin_bin, ↓wz_slB_bin_ix, ↓wz_slF_ix, ↓wz_slT_ix, ↓wz_slB_ix_int, ↓wz_slB_ix_neg, ↓wz_slB_ix_var, ↓wz_slB_ix_bin, ↓wz_slB_ix_ix, ↓wz_slF_call, ↓wz_slT_call, ↓wz_slF_blt, ↓wz_slT_blt, ↓wz_lcn, ↓wz_lcc, ↓wz_forn, ↓wz_forc, consO_s, consO_n, forK_nx, forK_ct, forK_bk, forK_rt, c_isN, c_isnN, c_isT, c_isF, c_isnT, c_isnF, isNone_n, isNone_t, isNone_l, isNone_i, isNone_b, c_nel0, c_eql0, Bool.not_true, Bool.not_false, o_catL, o_catT, Nat.reduceLeDiff, ↓wz_mp, ↓wz_ms, layS_i, c_nes, c_eqs, b_gcd]
      refine WP.eq (told_steps_ev (by decide) hs24 hS (by decide) (by decide) _) ?_
      simp only [↓WP_ok, ↓WPO_some, ↓WPB_t, ↓WPB_f, ↓WP_end, ↓pst_q, ↓pso_q, ↓pth_p, ↓WPO_map, ↓wz_var, ↓wz_int, ↓wz_bl, ↓wz_non, ↓wz_str, ↓wz_gi, ↓wz_bin, ↓wz_neg, ↓wz_cmp, ↓wz_cmp2, ↓wz_conj, ↓wz_disj, ↓wz_not, ↓wz_ite, ↓wz_tup, ↓wz_lst, ↓wz_ix, ↓wz_rev, ↓wz_nop, ↓wz_call, ↓wz_blt, ↓wz_isi, ↓wz_lc, ↓wz_lcO, ↓wz_rng, ↓wz_zip, ↓wz_lrg, ↓wz_sst, ↓wz_enm, ↓wz_get, ↓wz_get2, ↓wz_esn, ↓wz_esc, ↓wz_pn, ↓wz_pc, ↓wz_mv, ↓wz_ml, ↓wz_mk, ↓wz_mt, ↓wz_asg1, ↓wz_asgt, ↓wz_new, ↓wz_par, ↓wz_put, ↓wz_app, ↓wz_aug, ↓wz_ex, ↓wz_ifs, ↓wz_fors, ↓wz_forO, ↓wz_whl, ↓wz_ret, ↓wz_retL, ↓wz_ret0, ↓wz_brk, ↓wz_cont, ↓wz_pass, ↓wz_ssn, ↓wz_ssc, ↓wz_fb, ↓wz_lcb, negD_i, notD_b, revD_l, revD_t, isiD_d, layL_cup, layL_l, sA_nil, sA_cons, nxt_nx, nxt_rt, nxt_bk, nxt_ct, view_d, o_add, o_sub, c_lt, c_le, c_gt, c_ge, c_eqi, c_nei, ix_t0, ix_t1, ix_t2, ix_l0, ix_l1, ix_c0, ix_c1, put_c0, put_c1, b_int, b_abs, b_lenT, b_lenL, b_tupL, b_tupT, b_lstL, b_lstT, b_lstS, b_min2, b_max2, someD_d, lcM_its, lcM_l, lcM_t, forM_its, forM_l, forM_t, WP_bind, guardR_t, bt_nm, bt_tp, bts_nil, bts_cons, wipe_nil, wipe_cons, tT0, tT1, tT2, tT3, tT4, tT5, tT6, tT7, tT8, tT9, tT10, tT11, tT12, tL0, tL1, tL2, tL3, tL4, tL5, tL6, tL7, tL8, tL9, tL10, tL11, tL12, tL13, tL14, tL15, tL16, opt_map_some, opt_bind_some, finF_d, finF_nx, List.getD_cons_zero, List.getD_cons_succ, List.set_cons_zero, List.set_cons_succ, List.map_cons, List.map_nil, List.length_cons, List.length_nil, List.cons_append, List.nil_append, List.replicate_succ, List.replicate_zero, Nat.reduceAdd, Nat.reduceSub, Nat.sub_self, ↓wz_lc2, ↓wz_lc2b, ↓wz_slJ, slF_i, slT_i, slB_i, slD_t, slD_l, lc2M_its, lc2M_l, lc2M_t, innL_its, innL_l, innL_t, isD_map, ↓wz_slF_int, ↓wz_slT_int, ↓wz_slB_int_int, ↓wz_slB_int_neg, ↓wz_slB_int_var, ↓wz_slB_int_bin, ↓wz_slB_int_ix, ↓wz_slF_neg, ↓wz_slT_neg, ↓wz_slB_neg_int, ↓wz_slB_neg_neg, ↓wz_slB_neg_var, ↓wz_slB_neg_bin, ↓wz_slB_neg_ix, ↓wz_slF_var, ↓wz_slT_var, ↓wz_slB_var_int, ↓wz_slB_var_neg, ↓wz_slB_var_var, ↓wz_slB_var_bin, ↓wz_slB_var_ix, ↓wz_slF_bin, ↓wz_slT_bin, ↓wz_slB_bin_int, ↓wz_slB_bin_neg, ↓wz_slB_bin_var, ↓wz_slB_bin_bin, ↓wz_slB_bin_ix, ↓wz_slF_ix, ↓wz_slT_ix, ↓wz_slB_ix_int, ↓wz_slB_ix_neg, ↓wz_slB_ix_var, ↓wz_slB_ix_bin, ↓wz_slB_ix_ix, ↓wz_slF_call, ↓wz_slT_call, ↓wz_slF_blt, ↓wz_slT_blt, ↓wz_lcn, ↓wz_lcc, ↓wz_forn, ↓wz_forc, consO_s, consO_n, forK_nx, forK_ct, forK_bk, forK_rt, c_isN, c_isnN, c_isT, c_isF, c_isnT, c_isnF, isNone_n, isNone_t, isNone_l, isNone_i, isNone_b, c_nel0, c_eql0, Bool.not_true, Bool.not_false, o_catL, o_catT, Nat.reduceLeDiff, ↓wz_mp, ↓wz_ms, layS_i, c_nes, c_eqs, b_gcd, lcM_intD]
      refine WP.lcZ (fun t => .int ((t + 360 - b) % 360)) (fun t ht' => ?_) ?_
      · simp only [↓WP_ok, ↓WPO_some, ↓WPB_t, ↓WPB_f, ↓WP_end, ↓pst_q, ↓pso_q, ↓pth_p, ↓WPO_map, ↓wz_var, ↓wz_int, ↓wz_bl, ↓wz_non, ↓wz_str, ↓wz_gi, ↓wz_bin, ↓wz_neg, ↓wz_cmp, ↓wz_cmp2, ↓wz_conj, ↓wz_disj, ↓wz_not, ↓wz_ite, ↓wz_tup, ↓wz_lst, ↓wz_ix, ↓wz_rev, ↓wz_nop, ↓wz_call, ↓wz_blt, ↓wz_isi, ↓wz_lc, ↓wz_lcO, ↓wz_rng, ↓wz_zip, ↓wz_lrg, ↓wz_sst, ↓wz_enm, ↓wz_get, ↓wz_get2, ↓wz_esn, ↓wz_esc, ↓wz_pn, ↓wz_pc, ↓wz_mv, ↓wz_ml, ↓wz_mk, ↓wz_mt, ↓wz_asg1, ↓wz_asgt, ↓wz_new, ↓wz_par, ↓wz_put, ↓wz_app, ↓wz_aug, ↓wz_ex, ↓wz_ifs, ↓wz_fors, ↓wz_forO, ↓wz_whl, ↓wz_ret, ↓wz_retL, ↓wz_ret0, ↓wz_brk, ↓wz_cont, ↓wz_pass, ↓wz_ssn, ↓wz_ssc, ↓wz_fb, ↓wz_lcb, negD_i, notD_b, revD_l, revD_t, isiD_d, layL_cup, layL_l, sA_nil, sA_cons, nxt_nx, nxt_rt, nxt_bk, nxt_ct, view_d, o_add, o_sub, c_lt, c_le, c_gt, c_ge, c_eqi, c_nei, ix_t0, ix_t1, ix_t2, ix_l0, ix_l1, ix_c0, ix_c1, put_c0, put_c1, b_int, b_abs, b_lenT, b_lenL, b_tupL, b_tupT, b_lstL, b_lstT, b_lstS, b_min2, b_max2, someD_d, lcM_its, lcM_l, lcM_t, forM_its, forM_l, forM_t, WP_bind, guardR_t, bt_nm, bt_tp, bts_nil, bts_cons, wipe_nil, wipe_cons, tT0, tT1, tT2, tT3, tT4, tT5, tT6, tT7, tT8, tT9, tT10, tT11, tT12, tL0, tL1, tL2, tL3, tL4, tL5, tL6, tL7, tL8, tL9, tL10, tL11, tL12, tL13, tL14, tL15, tL16, opt_map_some, opt_bind_some, finF_d, finF_nx, List.getD_cons_zero, List.getD_cons_succ, List.set_cons_zero, List.set_cons_succ, List.map_cons, List.map_nil, List.length_cons, List.length_nil, List.cons_append, List.nil_append, List.replicate_succ, List.replicate_zero, Nat.reduceAdd, Nat.reduceSub, Nat.sub_self, ↓wz_lc2, ↓wz_lc2b, ↓wz_slJ, slF_i, slT_i, slB_i, slD_t, slD_l, lc2M_its, lc2M_l, lc2M_t, innL_its, innL_l, innL_t, isD_map, ↓wz_slF_int, ↓wz_slT_int, ↓wz_slB_int_int, ↓wz_slB_int_neg, ↓wz_slB_int_var, ↓wz_slB_int_bin, ↓wz_slB_int_ix, ↓wz_slF_neg, ↓wz_slT_neg, ↓wz_slB_neg_int, ↓wz_slB_neg_neg, ↓wz_slB_neg_var, ↓wz_slB_neg_bin, ↓wz_slB_neg_ix, ↓wz_slF_var, ↓wz_slT_var, ↓wz_slB_var_int, ↓wz_slB_var_neg, ↓wz_slB_var_var, ↓wz_slB_var_bin, ↓wz_slB_var_ix, ↓wz_slF_bin, ↓wz_slT_bin, ↓wz_slB_bin_int, ↓wz_slB_bin_neg, ↓wz_slB_bin_var, ↓wz_slB_bin_bin, ↓wz_slB_bin_ix, ↓wz_slF_ix, ↓wz_slT_ix, ↓wz_slB_ix_int, ↓wz_slB_ix_neg, ↓wz_slB_ix_var, ↓wz_slB_ix_bin, ↓wz_slB_ix_ix, ↓wz_slF_call, ↓wz_slT_call, ↓wz_slF_blt, ↓wz_slT_blt, ↓wz_lcn, ↓wz_lcc, ↓wz_forn, ↓wz_forc, consO_s, consO_n, forK_nx, forK_ct, forK_bk, forK_rt, c_isN, c_isnN, c_isT, c_isF, c_isnT, c_isnF, isNone_n, isNone_t, isNone_l, isNone_i, isNone_b, c_nel0, c_eql0, Bool.not_true, Bool.not_false, o_catL, o_catT, Nat.reduceLeDiff, ↓wz_mp, ↓wz_ms, layS_i, c_nes, c_eqs, b_gcd, o_mod _ (show (0 : Int) < 360 by decide)]
        exact ⟨by trivial, by trivial⟩
      have e4 : ((irange 0 360).filter fun t => decide (offF sk ps t ≤ 5)).map (fun t => PyData.int ((t + 360 - b) % 360)) = (((irange 0 360).filter fun t => decide (offF sk ps t ≤ 5)).map fun t => (t + 360 - b) % 360).map .int := by
        rw [List.map_map]
        rfl
      have hso := fun M => sorted_i (((irange 0 360).filter fun t => decide (offF sk ps t ≤ 5)).map fun t => (t + 360 - b) % 360) M (by rw [List.length_map]; exact flt_le _ _ (by decide))
      rw [e4]
      simp only [↓WP_ok, ↓WPO_some, ↓WPB_t, ↓WPB_f, ↓WP_end, ↓pst_q, ↓pso_q, ↓pth_p, ↓WPO_map, ↓wz_var, ↓wz_int, ↓wz_bl, ↓wz_non, ↓wz_str, ↓wz_gi, ↓wz_bin, ↓wz_neg, ↓wz_cmp, ↓wz_cmp2, ↓wz_conj, ↓wz_disj, ↓wz_not, ↓wz_ite, ↓wz_tup, ↓wz_lst, ↓wz_ix, ↓wz_rev, ↓wz_nop, ↓wz_call, ↓wz_blt, ↓wz_isi, ↓wz_lc, ↓wz_lcO, ↓wz_rng, ↓wz_zip, ↓wz_lrg, ↓wz_sst, ↓wz_enm, ↓wz_get, ↓wz_get2, ↓wz_esn, ↓wz_esc, ↓wz_pn, ↓wz_pc, ↓wz_mv, ↓wz_ml, ↓wz_mk, ↓wz_mt, ↓wz_asg1, ↓wz_asgt, ↓wz_new, ↓wz_par, ↓wz_put, ↓wz_app, ↓wz_aug, ↓wz_ex, ↓wz_ifs, ↓wz_fors, ↓wz_forO, ↓wz_whl, ↓wz_ret, ↓wz_retL, ↓wz_ret0, ↓wz_brk, ↓wz_cont, ↓wz_pass, ↓wz_ssn, ↓wz_ssc, ↓wz_fb, ↓wz_lcb, negD_i, notD_b, revD_l, revD_t, isiD_d, layL_cup, layL_l, sA_nil, sA_cons, nxt_nx, nxt_rt, nxt_bk, nxt_ct, view_d, o_add, o_sub, c_lt, c_le, c_gt, c_ge, c_eqi, c_nei, ix_t0, ix_t1, ix_t2, ix_l0, ix_l1, ix_c0, ix_c1, put_c0, put_c1, b_int, b_abs, b_lenT, b_lenL, b_tupL, b_tupT, b_lstL, b_lstT, b_lstS, b_min2, b_max2, someD_d, lcM_its, lcM_l, lcM_t, forM_its, forM_l, forM_t, WP_bind, guardR_t, bt_nm, bt_tp, bts_nil, bts_cons, wipe_nil, wipe_cons, tT0, tT1, tT2, tT3, tT4, tT5, tT6, tT7, tT8, tT9, tT10, tT11, tT12, tL0, tL1, tL2, tL3, tL4, tL5, tL6, tL7, tL8, tL9, tL10, tL11, tL12, tL13, tL14, tL15, tL16, opt_map_some, opt_bind_some, finF_d, finF_nx, List.getD_cons_zero, List.getD_cons_succ, List.set_cons_zero, List.set_cons_succ, List.map_cons, List.map_nil, List.length_cons, List.length_nil, List.cons_append, List.nil_append, List.replicate_succ, List.replicate_zero, Nat.reduceAdd, Nat.reduceSub, Nat.sub_self, ↓wz_lc2, ↓wz_lc2b, ↓wz_slJ, slF_i, slT_i, slB_i, slD_t, slD_l, lc2M_its, lc2M_l, lc2M_t, innL_its, innL_l, innL_t, isD_map, ↓wz_slF_int, ↓wz_slT_int, ↓wz_slB_int_int, ↓wz_slB_int_neg, ↓wz_slB_int_var, ↓wz_slB_int_bin, ↓wz_slB_int_ix, ↓wz_slF_neg, ↓wz_slT_neg, ↓wz_slB_neg_int, ↓wz_slB_neg_neg, ↓wz_slB_neg_var, ↓wz_slB_neg_bin, ↓wz_slB_neg_ix, ↓wz_slF_var, ↓wz_slT_var, ↓wz_slB_var_int, ↓wz_slB_var_neg, ↓wz_slB_var_var, ↓wz_slB_var_bin, ↓wz_slB_var_ix, ↓wz_slF_bin, ↓wz_slT_bin, ↓wz_slB_bin_int, ↓wz_slB_bin_neg, ↓wz_slB_bin_var, ↓wz_slB_bin_bin, ↓wz_slB_bin_ix, ↓wz_slF_ix, ↓wz_slT_ix, ↓wz_slB_ix_int, ↓wz_slB_ix_neg, ↓wz_slB_ix_var, ↓wz_slB_ix_bin, ↓wz_slB_ix_ix, ↓wz_slF_call, ↓wz_slT_call, ↓wz_slF_blt, ↓wz_slT_blt, ↓wz_lcn, ↓wz_lcc, ↓wz_forn, ↓wz_forc, consO_s, consO_n, forK_nx, forK_ct, forK_bk, forK_rt, c_isN, c_isnN, c_isT, c_isF, c_isnT, c_isnF, isNone_n, isNone_t, isNone_l, isNone_i, isNone_b, c_nel0, c_eql0, Bool.not_true, Bool.not_false, o_catL, o_catT, Nat.reduceLeDiff, ↓wz_mp, ↓wz_ms, layS_i, c_nes, c_eqs, b_gcd, hso, told_turned hS hb0 hb1 hal, intD]
      refine WP.eq (c_ne_same _ rfl (pl_ints (flt_le _ _ (by decide))) (Nat.le_trans (depth_ints _) (by decide))) ?_
      simp only [↓WP_ok, ↓WPO_some, ↓WPB_t, ↓WPB_f, ↓WP_end, ↓pst_q, ↓pso_q, ↓pth_p, ↓WPO_map, ↓wz_var, ↓wz_int, ↓wz_bl, ↓wz_non, ↓wz_str, ↓wz_gi, ↓wz_bin, ↓wz_neg, ↓wz_cmp, ↓wz_cmp2, ↓wz_conj, ↓wz_disj, ↓wz_not, ↓wz_ite, ↓wz_tup, ↓wz_lst, ↓wz_ix, ↓wz_rev, ↓wz_nop, ↓wz_call, ↓wz_blt, ↓wz_isi, ↓wz_lc, ↓wz_lcO, ↓wz_rng, ↓wz_zip, ↓wz_lrg, ↓wz_sst, ↓wz_enm, ↓wz_get, ↓wz_get2, ↓wz_esn, ↓wz_esc, ↓wz_pn, ↓wz_pc, ↓wz_mv, ↓wz_ml, ↓wz_mk, ↓wz_mt, ↓wz_asg1, ↓wz_asgt, ↓wz_new, ↓wz_par, ↓wz_put, ↓wz_app, ↓wz_aug, ↓wz_ex, ↓wz_ifs, ↓wz_fors, ↓wz_forO, ↓wz_whl, ↓wz_ret, ↓wz_retL, ↓wz_ret0, ↓wz_brk, ↓wz_cont, ↓wz_pass, ↓wz_ssn, ↓wz_ssc, ↓wz_fb, ↓wz_lcb, negD_i, notD_b, revD_l, revD_t, isiD_d, layL_cup, layL_l, sA_nil, sA_cons, nxt_nx, nxt_rt, nxt_bk, nxt_ct, view_d, o_add, o_sub, c_lt, c_le, c_gt, c_ge, c_eqi, c_nei, ix_t0, ix_t1, ix_t2, ix_l0, ix_l1, ix_c0, ix_c1, put_c0, put_c1, b_int, b_abs, b_lenT, b_lenL, b_tupL, b_tupT, b_lstL, b_lstT, b_lstS, b_min2, b_max2, someD_d, lcM_its, lcM_l, lcM_t, forM_its, forM_l, forM_t, WP_bind, guardR_t, bt_nm, bt_tp, bts_nil, bts_cons, wipe_nil, wipe_cons, tT0, tT1, tT2, tT3, tT4, tT5, tT6, tT7, tT8, tT9, tT10, tT11, tT12, tL0, tL1, tL2, tL3, tL4, tL5, tL6, tL7, tL8, tL9, tL10, tL11, tL12, tL13, tL14, tL15, tL16, opt_map_some, opt_bind_some, finF_d, finF_nx, List.getD_cons_zero, List.getD_cons_succ, List.set_cons_zero, List.set_cons_succ, List.map_cons, List.map_nil, List.length_cons, List.length_nil, List.cons_append, List.nil_append, List.replicate_succ, List.replicate_zero, Nat.reduceAdd, Nat.reduceSub, Nat.sub_self, ↓wz_lc2, ↓wz_lc2b, ↓wz_slJ, slF_i, slT_i, slB_i, slD_t, slD_l, lc2M_its, lc2M_l, lc2M_t, innL_its, innL_l, innL_t, isD_map, ↓wz_slF_int, ↓wz_slT_int, ↓wz_slB_int_int, ↓wz_slB_int_neg, ↓wz_slB_int_var, ↓wz_slB_int_bin, ↓wz_slB_int_ix, ↓wz_slF_neg, ↓wz_slT_neg, ↓wz_slB_neg_int, ↓wz_slB_neg_neg, ↓wz_slB_neg_var, ↓wz_slB_neg_bin, ↓wz_slB_neg_ix, ↓wz_slF_var, ↓wz_slT_var, ↓wz_slB_var_int, ↓wz_slB_var_neg, ↓wz_slB_var_var, ↓wz_slB_var_bin, ↓wz_slB_var_ix, ↓wz_slF_bin, ↓wz_slT_bin, ↓wz_slB_bin_int, ↓wz_slB_bin_neg, ↓wz_slB_bin_var, ↓wz_slB_bin_bin, ↓wz_slB_bin_ix, ↓wz_slF_ix, ↓wz_slT_ix, ↓wz_slB_ix_int, ↓wz_slB_ix_neg, ↓wz_slB_ix_var, ↓wz_slB_ix_bin, ↓wz_slB_ix_ix, ↓wz_slF_call, ↓wz_slT_call, ↓wz_slF_blt, ↓wz_slT_blt, ↓wz_lcn, ↓wz_lcc, ↓wz_forn, ↓wz_forc, consO_s, consO_n, forK_nx, forK_ct, forK_bk, forK_rt, c_isN, c_isnN, c_isT, c_isF, c_isnT, c_isnF, isNone_n, isNone_t, isNone_l, isNone_i, isNone_b, c_nel0, c_eql0, Bool.not_true, Bool.not_false, o_catL, o_catT, Nat.reduceLeDiff, ↓wz_mp, ↓wz_ms, layS_i, c_nes, c_eqs, b_gcd]
      exact ⟨by trivial, c, rfl, exO rfl⟩
    · simp only [↓WP_ok, ↓WPO_some, ↓WPB_t, ↓WPB_f, ↓WP_end, ↓pst_q, ↓pso_q, ↓pth_p, ↓WPO_map, ↓wz_var, ↓wz_int, ↓wz_bl, ↓wz_non, ↓wz_str, ↓wz_gi, ↓wz_bin, ↓wz_neg, ↓wz_cmp, ↓wz_cmp2, ↓wz_conj, ↓wz_disj, ↓wz_not, ↓wz_ite, ↓wz_tup, ↓wz_lst, ↓wz_ix, ↓wz_rev, ↓wz_nop, ↓wz_call, ↓wz_blt, ↓wz_isi, ↓wz_lc, ↓wz_lcO, ↓wz_rng, ↓wz_zip, ↓wz_lrg, ↓wz_sst, ↓wz_enm, ↓wz_get, ↓wz_get2, ↓wz_esn, ↓wz_esc, ↓wz_pn, ↓wz_pc, ↓wz_mv, ↓wz_ml, ↓wz_mk, ↓wz_mt, ↓wz_asg1, ↓wz_asgt, ↓wz_new, ↓wz_par, ↓wz_put, ↓wz_app, ↓wz_aug, ↓wz_ex, ↓wz_ifs, ↓wz_fors, ↓wz_forO, ↓wz_whl, ↓wz_ret, ↓wz_retL, ↓wz_ret0, ↓wz_brk, ↓wz_cont, ↓wz_pass, ↓wz_ssn, ↓wz_ssc, ↓wz_fb, ↓wz_lcb, negD_i, notD_b, revD_l, revD_t, isiD_d, layL_cup, layL_l, sA_nil, sA_cons, nxt_nx, nxt_rt, nxt_bk, nxt_ct, view_d, o_add, o_sub, c_lt, c_le, c_gt, c_ge, c_eqi, c_nei, ix_t0, ix_t1, ix_t2, ix_l0, ix_l1, ix_c0, ix_c1, put_c0, put_c1, b_int, b_abs, b_lenT, b_lenL, b_tupL, b_tupT, b_lstL, b_lstT, b_lstS, b_min2, b_max2, someD_d, lcM_its, lcM_l, lcM_t, forM_its, forM_l, forM_t, WP_bind, guardR_t, bt_nm, bt_tp, bts_nil, bts_cons, wipe_nil, wipe_cons, tT0, tT1, tT2, tT3, tT4, tT5, tT6, tT7, tT8, tT9, tT10, tT11, tT12, tL0, tL1, tL2, tL3, tL4, tL5, tL6, tL7, tL8, tL9, tL10, tL11, tL12, tL13, tL14, tL15, tL16, opt_map_some, opt_bind_some, finF_d, finF_nx, List.getD_cons_zero, List.getD_cons_succ, List.set_cons_zero, List.set_cons_succ, List.map_cons, List.map_nil, List.length_cons, List.length_nil, List.cons_append, List.nil_append, List.replicate_succ, List.replicate_zero, Nat.reduceAdd, Nat.reduceSub, Nat.sub_self, ↓wz_lc2, ↓wz_lc2b, ↓wz_slJ, slF_i, slT_i, slB_i, slD_t, slD_l, lc2M_its, lc2M_l, lc2M_t, innL_its, innL_l, innL_t, isD_map, ↓wz_slF_int, ↓wz_slT_int, ↓wz_slB_int_int, ↓wz_slB_int_neg, ↓wz_slB_int_var, ↓wz_slB_int_bin, ↓wz_slB_int_ix, ↓wz_slF_neg, ↓wz_slT_neg, ↓wz_slB_neg_int, ↓wz_slB_neg_neg, ↓wz_slB_neg_var, ↓wz_slB_neg_bin, ↓wz_slB_neg_ix, ↓wz_slF_var, ↓wz_slT_var, ↓wz_slB_var_int, ↓wz_slB_var_neg, ↓wz_slB_var_var, ↓wz_slB_var_bin, ↓wz_slB_var_ix, ↓wz_slF_bin, ↓wz_slT_bin, ↓wz_slB_bin_int, ↓wz_slB_bin_neg, ↓wz_slB_bin_var, ↓wz_slB_bin_bin, ↓wz_slB_bin_ix, ↓wz_slF_ix, ↓wz_slT_ix, ↓wz_slB_ix_int, ↓wz_slB_ix_neg, ↓wz_slB_ix_var, ↓wz_slB_ix_bin, ↓wz_slB_ix_ix, ↓wz_slF_call, ↓wz_slT_call, ↓wz_slF_blt, ↓wz_slT_blt, ↓wz_lcn, ↓wz_lcc, ↓wz_forn, ↓wz_forc, consO_s, consO_n, forK_nx, forK_ct, forK_bk, forK_rt, c_isN, c_isnN, c_isT, c_isF, c_isnT, c_isnF, isNone_n, isNone_t, isNone_l, isNone_i, isNone_b, c_nel0, c_eql0, Bool.not_true, Bool.not_false, o_catL, o_catT, Nat.reduceLeDiff, ↓wz_mp, ↓wz_ms, layS_i, c_nes, c_eqs, b_gcd]
      exact ⟨by trivial, c, rfl, exO rfl⟩
  · rintro ρ M ⟨c, rfl, o, rfl⟩
    simp only [↓WP_ok, ↓WPO_some, ↓WPB_t, ↓WPB_f, ↓WP_end, ↓pst_q, ↓pso_q, ↓pth_p, ↓WPO_map, ↓wz_var, ↓wz_int, ↓wz_bl, ↓wz_non, ↓wz_str, ↓wz_gi, ↓wz_bin, ↓wz_neg, ↓wz_cmp, ↓wz_cmp2, ↓wz_conj, ↓wz_disj, ↓wz_not, ↓wz_ite, ↓wz_tup, ↓wz_lst, ↓wz_ix, ↓wz_rev, ↓wz_nop, ↓wz_call, ↓wz_blt, ↓wz_isi, ↓wz_lc, ↓wz_lcO, ↓wz_rng, ↓wz_zip, ↓wz_lrg, ↓wz_sst, ↓wz_enm, ↓wz_get, ↓wz_get2, ↓wz_esn, ↓wz_esc, ↓wz_pn, ↓wz_pc, ↓wz_mv, ↓wz_ml, ↓wz_mk, ↓wz_mt, ↓wz_asg1, ↓wz_asgt, ↓wz_new, ↓wz_par, ↓wz_put, ↓wz_app, ↓wz_aug, ↓wz_ex, ↓wz_ifs, ↓wz_fors, ↓wz_forO, ↓wz_whl, ↓wz_ret, ↓wz_retL, ↓wz_ret0, ↓wz_brk, ↓wz_cont, ↓wz_pass, ↓wz_ssn, ↓wz_ssc, ↓wz_fb, ↓wz_lcb, negD_i, notD_b, revD_l, revD_t, isiD_d, layL_cup, layL_l, sA_nil, sA_cons, nxt_nx, nxt_rt, nxt_bk, nxt_ct, view_d, o_add, o_sub, c_lt, c_le, c_gt, c_ge, c_eqi, c_nei, ix_t0, ix_t1, ix_t2, ix_l0, ix_l1, ix_c0, ix_c1, put_c0, put_c1, b_int, b_abs, b_lenT, b_lenL, b_tupL, b_tupT, b_lstL, b_lstT, b_lstS, b_min2, b_max2, someD_d, lcM_its, lcM_l, lcM_t, forM_its, forM_l, forM_t, WP_bind, guardR_t, bt_nm, bt_tp, bts_nil, bts_cons, wipe_nil, wipe_cons, tT0, tT1, tT2, tT3, tT4, tT5, tT6, tT7, tT8, tT9, tT10, tT11, tT12, tL0, tL1, tL2, tL3, tL4, tL5, tL6, tL7, tL8, tL9, tL10, tL11, tL12, tL13, tL14, tL15, tL16, opt_map_some, opt_bind_some, finF_d, finF_nx, List.getD_cons_zero, List.getD_cons_succ, List.set_cons_zero, List.set_cons_succ, List.map_cons, List.map_nil, List.length_cons, List.length_nil, List.cons_append, List.nil_append, List.replicate_succ, List.replicate_zero, Nat.reduceAdd, Nat.reduceSub, Nat.sub_self, ↓wz_lc2, ↓wz_lc2b, ↓wz_slJ, slF_i, slT_i, slB_i, slD_t, slD_l, lc2M_its, lc2M_l, lc2M_t, innL_its, innL_l, innL_t, isD_map, ↓wz_slF_int, ↓wz_slT_int, ↓wz_slB_int_int, ↓wz_slB_int_neg, ↓wz_slB_int_var, ↓wz_slB_int_bin, ↓wz_slB_int_ix, ↓wz_slF_neg, ↓wz_slT_neg, ↓wz_slB_neg_int, ↓wz_slB_neg_neg, ↓wz_slB_neg_var, ↓wz_slB_neg_bin, ↓wz_slB_neg_ix, ↓wz_slF_var, ↓wz_slT_var, ↓wz_slB_var_int, ↓wz_slB_var_neg, ↓wz_slB_var_var, ↓wz_slB_var_bin, ↓wz_slB_var_ix, ↓wz_slF_bin, ↓wz_slT_bin, ↓wz_slB_bin_int, ↓wz_slB_bin_neg, ↓wz_slB_bin_var, ↓wz_slB_bin_bin, ↓wz_slB_bin_ix, ↓wz_slF_ix, ↓wz_slT_ix, ↓wz_slB_ix_int, ↓wz_slB_ix_neg, ↓wz_slB_ix_var, ↓wz_slB_ix_bin, ↓wz_slB_ix_ix, ↓wz_slF_call, ↓wz_slT_call, ↓wz_slF_blt, ↓wz_slT_blt, ↓wz_lcn, ↓wz_lcc, ↓wz_forn, ↓wz_forc, consO_s, consO_n, forK_nx, forK_ct, forK_bk, forK_rt, c_isN, c_isnN, c_isT, c_isF, c_isnT, c_isnF, isNone_n, isNone_t, isNone_l, isNone_i, isNone_b, c_nel0, c_eql0, Bool.not_true, Bool.not_false, o_catL, o_catT, Nat.reduceLeDiff, ↓wz_mp, ↓wz_ms, layS_i, c_nes, c_eqs, b_gcd]
    refine WP.roll Kr (by decide) (by decide) (by decide) (fun place c hp0 hp1 => ?_)
    simp only [↓WP_ok, ↓WPO_some, ↓WPB_t, ↓WPB_f, ↓WP_end, ↓pst_q, ↓pso_q, ↓pth_p, ↓WPO_map, ↓wz_var, ↓wz_int, ↓wz_bl, ↓wz_non, ↓wz_str, ↓wz_gi, ↓wz_bin, ↓wz_neg, ↓wz_cmp, ↓wz_cmp2, ↓wz_conj, ↓wz_disj, ↓wz_not, ↓wz_ite, ↓wz_tup, ↓wz_lst, ↓wz_ix, ↓wz_rev, ↓wz_nop, ↓wz_call, ↓wz_blt, ↓wz_isi, ↓wz_lc, ↓wz_lcO, ↓wz_rng, ↓wz_zip, ↓wz_lrg, ↓wz_sst, ↓wz_enm, ↓wz_get, ↓wz_get2, ↓wz_esn, ↓wz_esc, ↓wz_pn, ↓wz_pc, ↓wz_mv, ↓wz_ml, ↓wz_mk, ↓wz_mt, ↓wz_asg1, ↓wz_asgt, ↓wz_new, ↓wz_par, ↓wz_put, ↓wz_app, ↓wz_aug, ↓wz_ex, ↓wz_ifs, ↓wz_fors, ↓wz_forO, ↓wz_whl, ↓wz_ret, ↓wz_retL, ↓wz_ret0, ↓wz_brk, ↓wz_cont, ↓wz_pass, ↓wz_ssn, ↓wz_ssc, ↓wz_fb, ↓wz_lcb, negD_i, notD_b, revD_l, revD_t, isiD_d, layL_cup, layL_l, sA_nil, sA_cons, nxt_nx, nxt_rt, nxt_bk, nxt_ct, view_d, o_add, o_sub, c_lt, c_le, c_gt, c_ge, c_eqi, c_nei, ix_t0, ix_t1, ix_t2, ix_l0, ix_l1, ix_c0, ix_c1, put_c0, put_c1, b_int, b_abs, b_lenT, b_lenL, b_tupL, b_tupT, b_lstL, b_lstT, b_lstS, b_min2, b_max2, someD_d, lcM_its, lcM_l, lcM_t, forM_its, forM_l, forM_t, WP_bind, guardR_t, bt_nm, bt_tp, bts_nil, bts_cons, wipe_nil, wipe_cons, tT0, tT1, tT2, tT3, tT4, tT5, tT6, tT7, tT8, tT9, tT10, tT11, tT12, tL0, tL1, tL2, tL3, tL4, tL5, tL6, tL7, tL8, tL9, tL10, tL11, tL12, tL13, tL14, tL15, tL16, opt_map_some, opt_bind_some, finF_d, finF_nx, List.getD_cons_zero, List.getD_cons_succ, List.set_cons_zero, List.set_cons_succ, List.map_cons, List.map_nil, List.length_cons, List.length_nil, List.cons_append, List.nil_append, List.replicate_succ, List.replicate_zero, Nat.reduceAdd, Nat.reduceSub, Nat.sub_self, ↓wz_lc2, ↓wz_lc2b, ↓wz_slJ, slF_i, slT_i, slB_i, slD_t, slD_l, lc2M_its, lc2M_l, lc2M_t, innL_its, innL_l, innL_t, isD_map, ↓wz_slF_int, ↓wz_slT_int, ↓wz_slB_int_int, ↓wz_slB_int_neg, ↓wz_slB_int_var, ↓wz_slB_int_bin, ↓wz_slB_int_ix, ↓wz_slF_neg, ↓wz_slT_neg, ↓wz_slB_neg_int, ↓wz_slB_neg_neg, ↓wz_slB_neg_var, ↓wz_slB_neg_bin, ↓wz_slB_neg_ix, ↓wz_slF_var, ↓wz_slT_var, ↓wz_slB_var_int, ↓wz_slB_var_neg, ↓wz_slB_var_var, ↓wz_slB_var_bin, ↓wz_slB_var_ix, ↓wz_slF_bin, ↓wz_slT_bin, ↓wz_slB_bin_int, ↓wz_slB_bin_neg, ↓wz_slB_bin_var, ↓wz_slB_bin_bin, ↓wz_slB_bin_ix, ↓wz_slF_ix, ↓wz_slT_ix, ↓wz_slB_ix_int, ↓wz_slB_ix_neg, ↓wz_slB_ix_var, ↓wz_slB_ix_bin, ↓wz_slB_ix_ix, ↓wz_slF_call, ↓wz_slT_call, ↓wz_slF_blt, ↓wz_slT_blt, ↓wz_lcn, ↓wz_lcc, ↓wz_forn, ↓wz_forc, consO_s, consO_n, forK_nx, forK_ct, forK_bk, forK_rt, c_isN, c_isnN, c_isT, c_isF, c_isnT, c_isnF, isNone_n, isNone_t, isNone_l, isNone_i, isNone_b, c_nel0, c_eql0, Bool.not_true, Bool.not_false, o_catL, o_catT, Nat.reduceLeDiff, ↓wz_mp, ↓wz_ms, layS_i, c_nes, c_eqs, b_gcd]
    refine WP.roll Kr (by decide) (by decide) (by decide) (fun high c hh0 hh1 => ?_)
    simp only [↓WP_ok, ↓WPO_some, ↓WPB_t, ↓WPB_f, ↓WP_end, ↓pst_q, ↓pso_q, ↓pth_p, ↓WPO_map, ↓wz_var, ↓wz_int, ↓wz_bl, ↓wz_non, ↓wz_str, ↓wz_gi, ↓wz_bin, ↓wz_neg, ↓wz_cmp, ↓wz_cmp2, ↓wz_conj, ↓wz_disj, ↓wz_not, ↓wz_ite, ↓wz_tup, ↓wz_lst, ↓wz_ix, ↓wz_rev, ↓wz_nop, ↓wz_call, ↓wz_blt, ↓wz_isi, ↓wz_lc, ↓wz_lcO, ↓wz_rng, ↓wz_zip, ↓wz_lrg, ↓wz_sst, ↓wz_enm, ↓wz_get, ↓wz_get2, ↓wz_esn, ↓wz_esc, ↓wz_pn, ↓wz_pc, ↓wz_mv, ↓wz_ml, ↓wz_mk, ↓wz_mt, ↓wz_asg1, ↓wz_asgt, ↓wz_new, ↓wz_par, ↓wz_put, ↓wz_app, ↓wz_aug, ↓wz_ex, ↓wz_ifs, ↓wz_fors, ↓wz_forO, ↓wz_whl, ↓wz_ret, ↓wz_retL, ↓wz_ret0, ↓wz_brk, ↓wz_cont, ↓wz_pass, ↓wz_ssn, ↓wz_ssc, ↓wz_fb, ↓wz_lcb, negD_i, notD_b, revD_l, revD_t, isiD_d, layL_cup, layL_l, sA_nil, sA_cons, nxt_nx, nxt_rt, nxt_bk, nxt_ct, view_d, o_add, o_sub, c_lt, c_le, c_gt, c_ge, c_eqi, c_nei, ix_t0, ix_t1, ix_t2, ix_l0, ix_l1, ix_c0, ix_c1, put_c0, put_c1, b_int, b_abs, b_lenT, b_lenL, b_tupL, b_tupT, b_lstL, b_lstT, b_lstS, b_min2, b_max2, someD_d, lcM_its, lcM_l, lcM_t, forM_its, forM_l, forM_t, WP_bind, guardR_t, bt_nm, bt_tp, bts_nil, bts_cons, wipe_nil, wipe_cons, tT0, tT1, tT2, tT3, tT4, tT5, tT6, tT7, tT8, tT9, tT10, tT11, tT12, tL0, tL1, tL2, tL3, tL4, tL5, tL6, tL7, tL8, tL9, tL10, tL11, tL12, tL13, tL14, tL15, tL16, opt_map_some, opt_bind_some, finF_d, finF_nx, List.getD_cons_zero, List.getD_cons_succ, List.set_cons_zero, List.set_cons_succ, List.map_cons, List.map_nil, List.length_cons, List.length_nil, List.cons_append, List.nil_append, List.replicate_succ, List.replicate_zero, Nat.reduceAdd, Nat.reduceSub, Nat.sub_self, ↓wz_lc2, ↓wz_lc2b, ↓wz_slJ, slF_i, slT_i, slB_i, slD_t, slD_l, lc2M_its, lc2M_l, lc2M_t, innL_its, innL_l, innL_t, isD_map, ↓wz_slF_int, ↓wz_slT_int, ↓wz_slB_int_int, ↓wz_slB_int_neg, ↓wz_slB_int_var, ↓wz_slB_int_bin, ↓wz_slB_int_ix, ↓wz_slF_neg, ↓wz_slT_neg, ↓wz_slB_neg_int, ↓wz_slB_neg_neg, ↓wz_slB_neg_var, ↓wz_slB_neg_bin, ↓wz_slB_neg_ix, ↓wz_slF_var, ↓wz_slT_var, ↓wz_slB_var_int, ↓wz_slB_var_neg, ↓wz_slB_var_var, ↓wz_slB_var_bin, ↓wz_slB_var_ix, ↓wz_slF_bin, ↓wz_slT_bin, ↓wz_slB_bin_int, ↓wz_slB_bin_neg, ↓wz_slB_bin_var, ↓wz_slB_bin_bin, ↓wz_slB_bin_ix, ↓wz_slF_ix, ↓wz_slT_ix, ↓wz_slB_ix_int, ↓wz_slB_ix_neg, ↓wz_slB_ix_var, ↓wz_slB_ix_bin, ↓wz_slB_ix_ix, ↓wz_slF_call, ↓wz_slT_call, ↓wz_slF_blt, ↓wz_slT_blt, ↓wz_lcn, ↓wz_lcc, ↓wz_forn, ↓wz_forc, consO_s, consO_n, forK_nx, forK_ct, forK_bk, forK_rt, c_isN, c_isnN, c_isT, c_isF, c_isnT, c_isnF, isNone_n, isNone_t, isNone_l, isNone_i, isNone_b, c_nel0, c_eql0, Bool.not_true, Bool.not_false, o_catL, o_catT, Nat.reduceLeDiff, ↓wz_mp, ↓wz_ms, layS_i, c_nes, c_eqs, b_gcd, o_mod _ (show (0 : Int) < 360 by decide)]
    have hS1 : Sky 24 [(place, 1)] := ⟨by simp, by simp, by simp, fun p hp => by
      have : p = (place, 1) := by simpa using hp
      subst this
      exact ⟨hp0, hp1, by simp, by simp⟩⟩
    have hS2 : Seen [(place, 1)] [(0, high - 89)] := ⟨⟨by simp, fun s hs => by
      have : s = 0 := by simpa using hs
      subst this
      exact ⟨by decide, by simp [slen]⟩⟩, by simp, fun p hp => by
      have : p = (0, high - 89) := by simpa using hp
      subst this
      dsimp only
      omega⟩
    refine WP.eq (told_steps_ev (sk := [(place, 1)]) (ps := [(0, high - 89)]) (by decide) hS1 hS2 (by decide) (by decide) _) ?_
    have hso := fun M => sorted_i [(high - 89 + 360 - place) % 360, (180 - (high - 89) + 360 - place) % 360] M (by simp)
    simp only [List.map_cons, List.map_nil] at hso
    simp only [↓WP_ok, ↓WPO_some, ↓WPB_t, ↓WPB_f, ↓WP_end, ↓pst_q, ↓pso_q, ↓pth_p, ↓WPO_map, ↓wz_var, ↓wz_int, ↓wz_bl, ↓wz_non, ↓wz_str, ↓wz_gi, ↓wz_bin, ↓wz_neg, ↓wz_cmp, ↓wz_cmp2, ↓wz_conj, ↓wz_disj, ↓wz_not, ↓wz_ite, ↓wz_tup, ↓wz_lst, ↓wz_ix, ↓wz_rev, ↓wz_nop, ↓wz_call, ↓wz_blt, ↓wz_isi, ↓wz_lc, ↓wz_lcO, ↓wz_rng, ↓wz_zip, ↓wz_lrg, ↓wz_sst, ↓wz_enm, ↓wz_get, ↓wz_get2, ↓wz_esn, ↓wz_esc, ↓wz_pn, ↓wz_pc, ↓wz_mv, ↓wz_ml, ↓wz_mk, ↓wz_mt, ↓wz_asg1, ↓wz_asgt, ↓wz_new, ↓wz_par, ↓wz_put, ↓wz_app, ↓wz_aug, ↓wz_ex, ↓wz_ifs, ↓wz_fors, ↓wz_forO, ↓wz_whl, ↓wz_ret, ↓wz_retL, ↓wz_ret0, ↓wz_brk, ↓wz_cont, ↓wz_pass, ↓wz_ssn, ↓wz_ssc, ↓wz_fb, ↓wz_lcb, negD_i, notD_b, revD_l, revD_t, isiD_d, layL_cup, layL_l, sA_nil, sA_cons, nxt_nx, nxt_rt, nxt_bk, nxt_ct, view_d, o_add, o_sub, c_lt, c_le, c_gt, c_ge, c_eqi, c_nei, ix_t0, ix_t1, ix_t2, ix_l0, ix_l1, ix_c0, ix_c1, put_c0, put_c1, b_int, b_abs, b_lenT, b_lenL, b_tupL, b_tupT, b_lstL, b_lstT, b_lstS, b_min2, b_max2, someD_d, lcM_its, lcM_l, lcM_t, forM_its, forM_l, forM_t, WP_bind, guardR_t, bt_nm, bt_tp, bts_nil, bts_cons, wipe_nil, wipe_cons, tT0, tT1, tT2, tT3, tT4, tT5, tT6, tT7, tT8, tT9, tT10, tT11, tT12, tL0, tL1, tL2, tL3, tL4, tL5, tL6, tL7, tL8, tL9, tL10, tL11, tL12, tL13, tL14, tL15, tL16, opt_map_some, opt_bind_some, finF_d, finF_nx, List.getD_cons_zero, List.getD_cons_succ, List.set_cons_zero, List.set_cons_succ, List.map_cons, List.map_nil, List.length_cons, List.length_nil, List.cons_append, List.nil_append, List.replicate_succ, List.replicate_zero, Nat.reduceAdd, Nat.reduceSub, Nat.sub_self, ↓wz_lc2, ↓wz_lc2b, ↓wz_slJ, slF_i, slT_i, slB_i, slD_t, slD_l, lc2M_its, lc2M_l, lc2M_t, innL_its, innL_l, innL_t, isD_map, ↓wz_slF_int, ↓wz_slT_int, ↓wz_slB_int_int, ↓wz_slB_int_neg, ↓wz_slB_int_var, ↓wz_slB_int_bin, ↓wz_slB_int_ix, ↓wz_slF_neg, ↓wz_slT_neg, ↓wz_slB_neg_int, ↓wz_slB_neg_neg, ↓wz_slB_neg_var, ↓wz_slB_neg_bin, ↓wz_slB_neg_ix, ↓wz_slF_var, ↓wz_slT_var, ↓wz_slB_var_int, ↓wz_slB_var_neg, ↓wz_slB_var_var, ↓wz_slB_var_bin, ↓wz_slB_var_ix, ↓wz_slF_bin, ↓wz_slT_bin, ↓wz_slB_bin_int, ↓wz_slB_bin_neg, ↓wz_slB_bin_var, ↓wz_slB_bin_bin, ↓wz_slB_bin_ix, ↓wz_slF_ix, ↓wz_slT_ix, ↓wz_slB_ix_int, ↓wz_slB_ix_neg, ↓wz_slB_ix_var, ↓wz_slB_ix_bin, ↓wz_slB_ix_ix, ↓wz_slF_call, ↓wz_slT_call, ↓wz_slF_blt, ↓wz_slT_blt, ↓wz_lcn, ↓wz_lcc, ↓wz_forn, ↓wz_forc, consO_s, consO_n, forK_nx, forK_ct, forK_bk, forK_rt, c_isN, c_isnN, c_isT, c_isF, c_isnT, c_isnF, isNone_n, isNone_t, isNone_l, isNone_i, isNone_b, c_nel0, c_eql0, Bool.not_true, Bool.not_false, o_catL, o_catT, Nat.reduceLeDiff, ↓wz_mp, ↓wz_ms, layS_i, c_nes, c_eqs, b_gcd, hso]
    refine WP.same rfl ?_ ?_ ?_ ?_
    · rw [lone_told hp0 hp1 (by omega) (by omega)]
      rfl
    · rw [lone_told hp0 hp1 (by omega) (by omega)]
      exact pl_ints (flt_le _ _ (by decide))
    · exact Nat.le_trans (Nat.succ_le_succ (depth_ints _)) (by decide)
    simp only [↓WP_ok, ↓WPO_some, ↓WPB_t, ↓WPB_f, ↓WP_end, ↓pst_q, ↓pso_q, ↓pth_p, ↓WPO_map, ↓wz_var, ↓wz_int, ↓wz_bl, ↓wz_non, ↓wz_str, ↓wz_gi, ↓wz_bin, ↓wz_neg, ↓wz_cmp, ↓wz_cmp2, ↓wz_conj, ↓wz_disj, ↓wz_not, ↓wz_ite, ↓wz_tup, ↓wz_lst, ↓wz_ix, ↓wz_rev, ↓wz_nop, ↓wz_call, ↓wz_blt, ↓wz_isi, ↓wz_lc, ↓wz_lcO, ↓wz_rng, ↓wz_zip, ↓wz_lrg, ↓wz_sst, ↓wz_enm, ↓wz_get, ↓wz_get2, ↓wz_esn, ↓wz_esc, ↓wz_pn, ↓wz_pc, ↓wz_mv, ↓wz_ml, ↓wz_mk, ↓wz_mt, ↓wz_asg1, ↓wz_asgt, ↓wz_new, ↓wz_par, ↓wz_put, ↓wz_app, ↓wz_aug, ↓wz_ex, ↓wz_ifs, ↓wz_fors, ↓wz_forO, ↓wz_whl, ↓wz_ret, ↓wz_retL, ↓wz_ret0, ↓wz_brk, ↓wz_cont, ↓wz_pass, ↓wz_ssn, ↓wz_ssc, ↓wz_fb, ↓wz_lcb, negD_i, notD_b, revD_l, revD_t, isiD_d, layL_cup, layL_l, sA_nil, sA_cons, nxt_nx, nxt_rt, nxt_bk, nxt_ct, view_d, o_add, o_sub, c_lt, c_le, c_gt, c_ge, c_eqi, c_nei, ix_t0, ix_t1, ix_t2, ix_l0, ix_l1, ix_c0, ix_c1, put_c0, put_c1, b_int, b_abs, b_lenT, b_lenL, b_tupL, b_tupT, b_lstL, b_lstT, b_lstS, b_min2, b_max2, someD_d, lcM_its, lcM_l, lcM_t, forM_its, forM_l, forM_t, WP_bind, guardR_t, bt_nm, bt_tp, bts_nil, bts_cons, wipe_nil, wipe_cons, tT0, tT1, tT2, tT3, tT4, tT5, tT6, tT7, tT8, tT9, tT10, tT11, tT12, tL0, tL1, tL2, tL3, tL4, tL5, tL6, tL7, tL8, tL9, tL10, tL11, tL12, tL13, tL14, tL15, tL16, opt_map_some, opt_bind_some, finF_d, finF_nx, List.getD_cons_zero, List.getD_cons_succ, List.set_cons_zero, List.set_cons_succ, List.map_cons, List.map_nil, List.length_cons, List.length_nil, List.cons_append, List.nil_append, List.replicate_succ, List.replicate_zero, Nat.reduceAdd, Nat.reduceSub, Nat.sub_self, ↓wz_lc2, ↓wz_lc2b, ↓wz_slJ, slF_i, slT_i, slB_i, slD_t, slD_l, lc2M_its, lc2M_l, lc2M_t, innL_its, innL_l, innL_t, isD_map, ↓wz_slF_int, ↓wz_slT_int, ↓wz_slB_int_int, ↓wz_slB_int_neg, ↓wz_slB_int_var, ↓wz_slB_int_bin, ↓wz_slB_int_ix, ↓wz_slF_neg, ↓wz_slT_neg, ↓wz_slB_neg_int, ↓wz_slB_neg_neg, ↓wz_slB_neg_var, ↓wz_slB_neg_bin, ↓wz_slB_neg_ix, ↓wz_slF_var, ↓wz_slT_var, ↓wz_slB_var_int, ↓wz_slB_var_neg, ↓wz_slB_var_var, ↓wz_slB_var_bin, ↓wz_slB_var_ix, ↓wz_slF_bin, ↓wz_slT_bin, ↓wz_slB_bin_int, ↓wz_slB_bin_neg, ↓wz_slB_bin_var, ↓wz_slB_bin_bin, ↓wz_slB_bin_ix, ↓wz_slF_ix, ↓wz_slT_ix, ↓wz_slB_ix_int, ↓wz_slB_ix_neg, ↓wz_slB_ix_var, ↓wz_slB_ix_bin, ↓wz_slB_ix_ix, ↓wz_slF_call, ↓wz_slT_call, ↓wz_slF_blt, ↓wz_slT_blt, ↓wz_lcn, ↓wz_lcc, ↓wz_forn, ↓wz_forc, consO_s, consO_n, forK_nx, forK_ct, forK_bk, forK_rt, c_isN, c_isnN, c_isT, c_isF, c_isnT, c_isnF, isNone_n, isNone_t, isNone_l, isNone_i, isNone_b, c_nel0, c_eql0, Bool.not_true, Bool.not_false, o_catL, o_catT, Nat.reduceLeDiff, ↓wz_mp, ↓wz_ms, layS_i, c_nes, c_eqs, b_gcd]
    exact ⟨by trivial, rfl⟩
end Lk78

set_option Elab.async false
set_option linter.all false
set_option maxRecDepth 100000
set_option maxHeartbeats 8000000
namespace Lk78
open PySem PySem.Spec PyProof.Rows L2 Ob
theorem all_mk {w : World} {K : PySem.W.Frag} {h : Heap} {mg : Str → Option Value} {fa a0 a1 a2 a3 a4 a5 a6 a7 a8 a9 a10 a11 a12 a13 a14 a15 a16 a17 a18 a19 a20 a21 a22 a23 : Addr} (X : K.In h) (Gn : h.Ns mainGlobals mg) (hfa : mg "law" = some (.ref fa))
    {od0 an0 od1 an1 od2 an2 od3 an3 od4 an4 od5 an5 od6 an6 od7 an7 od8 an8 od9 an9 od10 an10 od11 an11 od12 an12 od13 an13 od14 an14 od15 an15 od16 an16 od17 an17 od18 an18 od19 an19 od20 an20 od21 an21 od22 an22 od23 an23 : Option Addr} {sl0 sl1 sl2 sl3 sl4 sl5 sl6 sl7 sl8 sl9 sl10 sl11 sl12 sl13 sl14 sl15 sl16 sl17 sl18 sl19 sl20 sl21 sl22 sl23 : Array (Option Value)} {oc0 kV0 dc0 pm0 cd0 ct0 oc1 kV1 dc1 pm1 cd1 ct1 oc2 kV2 dc2 pm2 cd2 ct2 oc3 kV3 dc3 pm3 cd3 ct3 oc4 kV4 dc4 pm4 cd4 ct4 oc5 kV5 dc5 pm5 cd5 ct5 oc6 kV6 dc6 pm6 cd6 ct6 oc7 kV7 dc7 pm7 cd7 ct7 oc8 kV8 dc8 pm8 cd8 ct8 oc9 kV9 dc9 pm9 cd9 ct9 oc10 kV10 dc10 pm10 cd10 ct10 oc11 kV11 dc11 pm11 cd11 ct11 oc12 kV12 dc12 pm12 cd12 ct12 oc13 kV13 dc13 pm13 cd13 ct13 oc14 kV14 dc14 pm14 cd14 ct14 oc15 kV15 dc15 pm15 cd15 ct15 oc16 kV16 dc16 pm16 cd16 ct16 oc17 kV17 dc17 pm17 cd17 ct17 oc18 kV18 dc18 pm18 cd18 ct18 oc19 kV19 dc19 pm19 cd19 ct19 oc20 kV20 dc20 pm20 cd20 ct20 oc21 kV21 dc21 pm21 cd21 ct21 oc22 kV22 dc22 pm22 cd22 ct22 oc23 kV23 dc23 pm23 cd23 ct23 : Value}
    {t0 t1 t2 t3 t4 : Tok}
    (n0 : PySem.W.nsIn K mainGlobals "is_whole" = some (some (.ref a0))) (l0 : K.lookup a0 = some ⟨oc0, od0, .func (PySem.W.fnOf "is_whole" "is_whole" (defArgs (top 10)) (defBody (top 10)) (defScope (top 10)) .none kV0 dc0 pm0 an0 cd0 ct0), sl0⟩) (c0 : PySem.W.codeIn K cd0 "is_whole" = true) (k0 : PySem.W.keepIn K (.ref a0) = true)
    (n1 : PySem.W.nsIn K mainGlobals "is_tuple_of" = some (some (.ref a1))) (l1 : K.lookup a1 = some ⟨oc1, od1, .func (PySem.W.fnOf "is_tuple_of" "is_tuple_of" (defArgs (top 11)) (defBody (top 11)) (defScope (top 11)) .none kV1 dc1 pm1 an1 cd1 ct1), sl1⟩) (c1 : PySem.W.codeIn K cd1 "is_tuple_of" = true) (k1 : PySem.W.keepIn K (.ref a1) = true)
    (n2 : PySem.W.nsIn K mainGlobals "is_rising" = some (some (.ref a2))) (l2 : K.lookup a2 = some ⟨oc2, od2, .func (PySem.W.fnOf "is_rising" "is_rising" (defArgs (top 12)) (defBody (top 12)) (defScope (top 12)) .none kV2 dc2 pm2 an2 cd2 ct2), sl2⟩) (c2 : PySem.W.codeIn K cd2 "is_rising" = true) (k2 : PySem.W.keepIn K (.ref a2) = true)
    (n3 : PySem.W.nsIn K mainGlobals "fits_some" = some (some (.ref a3))) (l3 : K.lookup a3 = some ⟨oc3, od3, .func (PySem.W.fnOf "fits_some" "fits_some" (defArgs (top 13)) (defBody (top 13)) (defScope (top 13)) .none kV3 dc3 pm3 an3 cd3 ct3), sl3⟩) (c3 : PySem.W.codeIn K cd3 "fits_some" = true) (k3 : PySem.W.keepIn K (.ref a3) = true)
    (n4 : PySem.W.nsIn K mainGlobals "fits_star" = some (some (.ref a4))) (l4 : K.lookup a4 = some ⟨oc4, od4, .func (PySem.W.fnOf "fits_star" "fits_star" (defArgs (top 14)) (defBody (top 14)) (defScope (top 14)) .none kV4 dc4 pm4 an4 cd4 ct4), sl4⟩) (c4 : PySem.W.codeIn K cd4 "fits_star" = true) (k4 : PySem.W.keepIn K (.ref a4) = true)
    (n5 : PySem.W.nsIn K mainGlobals "fits_sky" = some (some (.ref a5))) (l5 : K.lookup a5 = some ⟨oc5, od5, .func (PySem.W.fnOf "fits_sky" "fits_sky" (defArgs (top 15)) (defBody (top 15)) (defScope (top 15)) .none kV5 dc5 pm5 an5 cd5 ct5), sl5⟩) (c5 : PySem.W.codeIn K cd5 "fits_sky" = true) (k5 : PySem.W.keepIn K (.ref a5) = true)
    (n6 : PySem.W.nsIn K mainGlobals "need_sky" = some (some (.ref a6))) (l6 : K.lookup a6 = some ⟨oc6, od6, .func (PySem.W.fnOf "need_sky" "need_sky" (defArgs (top 16)) (defBody (top 16)) (defScope (top 16)) .none kV6 dc6 pm6 an6 cd6 ct6), sl6⟩) (c6 : PySem.W.codeIn K cd6 "need_sky" = true) (k6 : PySem.W.keepIn K (.ref a6) = true)
    (n7 : PySem.W.nsIn K mainGlobals "need_step" = some (some (.ref a7))) (l7 : K.lookup a7 = some ⟨oc7, od7, .func (PySem.W.fnOf "need_step" "need_step" (defArgs (top 17)) (defBody (top 17)) (defScope (top 17)) .none kV7 dc7 pm7 an7 cd7 ct7), sl7⟩) (c7 : PySem.W.codeIn K cd7 "need_step" = true) (k7 : PySem.W.keepIn K (.ref a7) = true)
    (n8 : PySem.W.nsIn K mainGlobals "height_in" = some (some (.ref a8))) (l8 : K.lookup a8 = some ⟨oc8, od8, .func (PySem.W.fnOf "height_in" "height_in" (defArgs (top 18)) (defBody (top 18)) (defScope (top 18)) .none kV8 dc8 pm8 an8 cd8 ct8), sl8⟩) (c8 : PySem.W.codeIn K cd8 "height_in" = true) (k8 : PySem.W.keepIn K (.ref a8) = true)
    (n9 : PySem.W.nsIn K mainGlobals "need_slack" = some (some (.ref a9))) (l9 : K.lookup a9 = some ⟨oc9, od9, .func (PySem.W.fnOf "need_slack" "need_slack" (defArgs (top 21)) (defBody (top 21)) (defScope (top 21)) .none kV9 dc9 pm9 an9 cd9 ct9), sl9⟩) (c9 : PySem.W.codeIn K cd9 "need_slack" = true) (k9 : PySem.W.keepIn K (.ref a9) = true)
    (n10 : PySem.W.nsIn K mainGlobals "fits_seen" = some (some (.ref a10))) (l10 : K.lookup a10 = some ⟨oc10, od10, .func (PySem.W.fnOf "fits_seen" "fits_seen" (defArgs (top 22)) (defBody (top 22)) (defScope (top 22)) .none kV10 dc10 pm10 an10 cd10 ct10), sl10⟩) (c10 : PySem.W.codeIn K cd10 "fits_seen" = true) (k10 : PySem.W.keepIn K (.ref a10) = true)
    (n11 : PySem.W.nsIn K mainGlobals "need_seen" = some (some (.ref a11))) (l11 : K.lookup a11 = some ⟨oc11, od11, .func (PySem.W.fnOf "need_seen" "need_seen" (defArgs (top 23)) (defBody (top 23)) (defScope (top 23)) .none kV11 dc11 pm11 an11 cd11 ct11), sl11⟩) (c11 : PySem.W.codeIn K cd11 "need_seen" = true) (k11 : PySem.W.keepIn K (.ref a11) = true)
    (n12 : PySem.W.nsIn K mainGlobals "need_lot" = some (some (.ref a12))) (l12 : K.lookup a12 = some ⟨oc12, od12, .func (PySem.W.fnOf "need_lot" "need_lot" (defArgs (top 24)) (defBody (top 24)) (defScope (top 24)) .none kV12 dc12 pm12 an12 cd12 ct12), sl12⟩) (c12 : PySem.W.codeIn K cd12 "need_lot" = true) (k12 : PySem.W.keepIn K (.ref a12) = true)
    (n13 : PySem.W.nsIn K mainGlobals "off_at" = some (some (.ref a13))) (l13 : K.lookup a13 = some ⟨oc13, od13, .func (PySem.W.fnOf "off_at" "off_at" (defArgs (top 25)) (defBody (top 25)) (defScope (top 25)) .none kV13 dc13 pm13 an13 cd13 ct13), sl13⟩) (c13 : PySem.W.codeIn K cd13 "off_at" = true) (k13 : PySem.W.keepIn K (.ref a13) = true)
    (n14 : PySem.W.nsIn K mainGlobals "heights" = some (some (.ref a14))) (l14 : K.lookup a14 = some ⟨oc14, od14, .func (PySem.W.fnOf "heights" "heights" (defArgs (top 26)) (defBody (top 26)) (defScope (top 26)) .none kV14 dc14 pm14 an14 cd14 ct14), sl14⟩) (c14 : PySem.W.codeIn K cd14 "heights" = true) (k14 : PySem.W.keepIn K (.ref a14) = true)
    (n15 : PySem.W.nsIn K mainGlobals "told_steps" = some (some (.ref a15))) (l15 : K.lookup a15 = some ⟨oc15, od15, .func (PySem.W.fnOf "told_steps" "told_steps" (defArgs (top 27)) (defBody (top 27)) (defScope (top 27)) .none kV15 dc15 pm15 an15 cd15 ct15), sl15⟩) (c15 : PySem.W.codeIn K cd15 "told_steps" = true) (k15 : PySem.W.keepIn K (.ref a15) = true)
    (n16 : PySem.W.nsIn K mainGlobals "best_step" = some (some (.ref a16))) (l16 : K.lookup a16 = some ⟨oc16, od16, .func (PySem.W.fnOf "best_step" "best_step" (defArgs (top 28)) (defBody (top 28)) (defScope (top 28)) .none kV16 dc16 pm16 an16 cd16 ct16), sl16⟩) (c16 : PySem.W.codeIn K cd16 "best_step" = true) (k16 : PySem.W.keepIn K (.ref a16) = true)
    (n17 : PySem.W.nsIn K mainGlobals "_law_cup" = some (some (.ref a17))) (l17 : K.lookup a17 = some ⟨oc17, od17, .func (PySem.W.fnOf "_law_cup" "_law_cup" (defArgs (top 30)) (defBody (top 30)) (defScope (top 30)) .none kV17 dc17 pm17 an17 cd17 ct17), sl17⟩) (c17 : PySem.W.codeIn K cd17 "_law_cup" = true) (k17 : PySem.W.keepIn K (.ref a17) = true)
    (n18 : PySem.W.nsIn K mainGlobals "_law_roll" = some (some (.ref a18))) (l18 : K.lookup a18 = some ⟨oc18, od18, .func (PySem.W.fnOf "_law_roll" "_law_roll" (defArgs (top 31)) (defBody (top 31)) (defScope (top 31)) .none kV18 dc18 pm18 an18 cd18 ct18), sl18⟩) (c18 : PySem.W.codeIn K cd18 "_law_roll" = true) (k18 : PySem.W.keepIn K (.ref a18) = true)
    (n19 : PySem.W.nsIn K mainGlobals "_law_some" = some (some (.ref a19))) (l19 : K.lookup a19 = some ⟨oc19, od19, .func (PySem.W.fnOf "_law_some" "_law_some" (defArgs (top 32)) (defBody (top 32)) (defScope (top 32)) .none kV19 dc19 pm19 an19 cd19 ct19), sl19⟩) (c19 : PySem.W.codeIn K cd19 "_law_some" = true) (k19 : PySem.W.keepIn K (.ref a19) = true)
    (n20 : PySem.W.nsIn K mainGlobals "_law_same" = some (some (.ref a20))) (l20 : K.lookup a20 = some ⟨oc20, od20, .func (PySem.W.fnOf "_law_same" "_law_same" (defArgs (top 33)) (defBody (top 33)) (defScope (top 33)) .none kV20 dc20 pm20 an20 cd20 ct20), sl20⟩) (c20 : PySem.W.codeIn K cd20 "_law_same" = true) (k20 : PySem.W.keepIn K (.ref a20) = true)
    (n21 : PySem.W.nsIn K mainGlobals "_law_sky" = some (some (.ref a21))) (l21 : K.lookup a21 = some ⟨oc21, od21, .func (PySem.W.fnOf "_law_sky" "_law_sky" (defArgs (top 34)) (defBody (top 34)) (defScope (top 34)) .none kV21 dc21 pm21 an21 cd21 ct21), sl21⟩) (c21 : PySem.W.codeIn K cd21 "_law_sky" = true) (k21 : PySem.W.keepIn K (.ref a21) = true)
    (n22 : PySem.W.nsIn K mainGlobals "_law_height" = some (some (.ref a22))) (l22 : K.lookup a22 = some ⟨oc22, od22, .func (PySem.W.fnOf "_law_height" "_law_height" (defArgs (top 35)) (defBody (top 35)) (defScope (top 35)) .none kV22 dc22 pm22 an22 cd22 ct22), sl22⟩) (c22 : PySem.W.codeIn K cd22 "_law_height" = true) (k22 : PySem.W.keepIn K (.ref a22) = true)
    (n23 : PySem.W.nsIn K mainGlobals "law" = some (some (.ref a23))) (l23 : K.lookup a23 = some ⟨oc23, od23, .func (PySem.W.fnOf "law" "law" (defArgs (top 36)) (defBody (top 36)) (defScope (top 36)) .none kV23 dc23 pm23 an23 cd23 ct23), sl23⟩) (c23 : PySem.W.codeIn K cd23 "law" = true) (k23 : PySem.W.keepIn K (.ref a23) = true)
    (g0 : PySem.W.nsIn K mainGlobals "RING" = some (some (.int (360) t0)))
    (g1 : PySem.W.nsIn K mainGlobals "HALF" = some (some (.int (180) t1)))
    (g2 : PySem.W.nsIn K mainGlobals "STARS" = some (some (.int (24) t2)))
    (g3 : PySem.W.nsIn K mainGlobals "BRIGHT" = some (some (.int (9) t3)))
    (g4 : PySem.W.nsIn K mainGlobals "HIGH" = some (some (.int (90) t4)))
    (z0 : PySem.W.nsIn K mainGlobals "len" = some none)
    (z1 : PySem.W.nsIn K mainGlobals "abs" = some none)
    (z2 : PySem.W.nsIn K mainGlobals "min" = some none)
    (z3 : PySem.W.nsIn K mainGlobals "max" = some none)
    (z4 : PySem.W.nsIn K mainGlobals "sum" = some none)
    (z5 : PySem.W.nsIn K mainGlobals "sorted" = some none)
    (z6 : PySem.W.nsIn K mainGlobals "tuple" = some none)
    (z7 : PySem.W.nsIn K mainGlobals "list" = some none)
    (z8 : PySem.W.nsIn K mainGlobals "all" = some none)
    (z9 : PySem.W.nsIn K mainGlobals "any" = some none)
    (z10 : PySem.W.nsIn K mainGlobals "int" = some none)
    (z11 : PySem.W.nsIn K mainGlobals "str" = some none)
    (z12 : PySem.W.nsIn K mainGlobals "repr" = some none)
    (z13 : PySem.W.nsIn K mainGlobals "bool" = some none)
    (z14 : PySem.W.nsIn K mainGlobals "isinstance" = some none)
    (z15 : PySem.W.nsIn K mainGlobals "range" = some none)
    (z16 : PySem.W.nsIn K mainGlobals "zip" = some none)
    (z17 : PySem.W.nsIn K mainGlobals "enumerate" = some none)
    (z18 : PySem.W.nsIn K mainGlobals "dict" = some none)
    (z19 : PySem.W.nsIn K mainGlobals "set" = some none)
    (hlaw : ∀ ns : List Int, ns.length ≤ 63 → evFn fns WF LV 23 [.scr (ns.map .int)] [] = Rs.ok (.d (.bool true)) []) :
    ∃ fd : FuncData, (∀ (s : Shared) (v : Value), BindsTo s fd ⟨[v], []⟩ [("script", v)]) ∧ ∀ base : Heap, K.In base → base.Ns mainGlobals mg → FnG PySem.Challenge.pw_observatory_k78_whole_steps_told_by_heig w K mg base (L2.CX PySem.Challenge.pw_observatory_k78_whole_steps_told_by_heig w) LV fa fd ["script"] (spLawO K) := by
  have e := hfa.symm.trans (PySem.W.mg_of X Gn n23)
  cases e
  have O : TabOk { K := K, fa := fun i => [a0, a1, a2, a3, a4, a5, a6, a7, a8, a9, a10, a11, a12, a13, a14, a15, a16, a17, a18, a19, a20, a21, a22, fa].getD i 0, ca := fun _ => 0 } mg tab := by
    refine ⟨fds_of ?_, ?_, ?_, ?_⟩
    · exact (.cons (fd_mk (fd := f_is_whole) X Gn n0 l0 c0 k0 sc_is_whole mt_is_whole (fun us hl => match us, hl with | [_, _, _], _ => rfl))
        (.cons (fd_mk (fd := f_is_tuple_of) X Gn n1 l1 c1 k1 sc_is_tuple_of mt_is_tuple_of (fun us hl => match us, hl with | [_, _, _], _ => rfl))
        (.cons (fd_mk (fd := f_is_rising) X Gn n2 l2 c2 k2 sc_is_rising mt_is_rising (fun us hl => match us, hl with | [_], _ => rfl))
        (.cons (fd_mk (fd := f_fits_some) X Gn n3 l3 c3 k3 sc_fits_some mt_fits_some (fun us hl => match us, hl with | [_, _], _ => rfl))
        (.cons (fd_mk (fd := f_fits_star) X Gn n4 l4 c4 k4 sc_fits_star mt_fits_star (fun us hl => match us, hl with | [_], _ => rfl))
        (.cons (fd_mk (fd := f_fits_sky) X Gn n5 l5 c5 k5 sc_fits_sky mt_fits_sky (fun us hl => match us, hl with | [_], _ => rfl))
        (.cons (fd_mk (fd := f_need_sky) X Gn n6 l6 c6 k6 sc_need_sky mt_need_sky (fun us hl => match us, hl with | [_], _ => rfl))
        (.cons (fd_mk (fd := f_need_step) X Gn n7 l7 c7 k7 sc_need_step mt_need_step (fun us hl => match us, hl with | [_], _ => rfl))
        (.cons (fd_mk (fd := f_height_in) X Gn n8 l8 c8 k8 sc_height_in mt_height_in (fun us hl => match us, hl with | [_, _, _], _ => rfl))
        (.cons (fd_mk (fd := f_need_slack) X Gn n9 l9 c9 k9 sc_need_slack mt_need_slack (fun us hl => match us, hl with | [_], _ => rfl))
        (.cons (fd_mk (fd := f_fits_seen) X Gn n10 l10 c10 k10 sc_fits_seen mt_fits_seen (fun us hl => match us, hl with | [_, _], _ => rfl))
        (.cons (fd_mk (fd := f_need_seen) X Gn n11 l11 c11 k11 sc_need_seen mt_need_seen (fun us hl => match us, hl with | [_, _], _ => rfl))
        (.cons (fd_mk (fd := f_need_lot) X Gn n12 l12 c12 k12 sc_need_lot mt_need_lot (fun us hl => match us, hl with | [_, _], _ => rfl))
        (.cons (fd_mk (fd := f_off_at) X Gn n13 l13 c13 k13 sc_off_at mt_off_at (fun us hl => match us, hl with | [_, _, _], _ => rfl))
        (.cons (fd_mk (fd := f_heights) X Gn n14 l14 c14 k14 sc_heights mt_heights (fun us hl => match us, hl with | [_, _, _], _ => rfl))
        (.cons (fd_mk (fd := f_told_steps) X Gn n15 l15 c15 k15 sc_told_steps mt_told_steps (fun us hl => match us, hl with | [_, _, _], _ => rfl))
        (.cons (fd_mk (fd := f_best_step) X Gn n16 l16 c16 k16 sc_best_step mt_best_step (fun us hl => match us, hl with | [_, _], _ => rfl))
        (.cons (fd_mk (fd := f__law_cup) X Gn n17 l17 c17 k17 sc__law_cup mt__law_cup (fun us hl => match us, hl with | [_], _ => rfl))
        (.cons (fd_mk (fd := f__law_roll) X Gn n18 l18 c18 k18 sc__law_roll mt__law_roll (fun us hl => match us, hl with | [_, _], _ => rfl))
        (.cons (fd_mk (fd := f__law_some) X Gn n19 l19 c19 k19 sc__law_some mt__law_some (fun us hl => match us, hl with | [_, _], _ => rfl))
        (.cons (fd_mk (fd := f__law_same) X Gn n20 l20 c20 k20 sc__law_same mt__law_same (fun us hl => match us, hl with | [_, _], _ => rfl))
        (.cons (fd_mk (fd := f__law_sky) X Gn n21 l21 c21 k21 sc__law_sky mt__law_sky (fun us hl => match us, hl with | [_, _], _ => rfl))
        (.cons (fd_mk (fd := f__law_height) X Gn n22 l22 c22 k22 sc__law_height mt__law_height (fun us hl => match us, hl with | [_, _, _], _ => rfl))
        (.cons (fd_mk (fd := f_law) X Gn n23 l23 c23 k23 sc_law mt_law (fun us hl => match us, hl with | [_], _ => rfl))
        .nil))))))))))))))))))))))))
    · intro x i e
      have key : ∀ (l : List (Str × Int)), (∀ p ∈ l, ∃ t, mg p.1 = some (.int p.2 t)) → l.lookup x = some i → ∃ t, mg x = some (.int i t) := by
        intro l
        induction l with
        | nil => intro _ h; cases h
        | cons p l ih =>
          intro hp h
          obtain ⟨q, v⟩ := p
          rw [List.lookup_cons] at h
          split at h
          · rename_i hb
            cases h
            have hb : x = q := by simpa using hb
            subst hb
            exact hp (x, _) List.mem_cons_self
          · exact ih (fun p hq => hp p (List.mem_cons_of_mem _ hq)) h
      refine key tab.consts ?_ e
      intro p hp
      have hp : p ∈ [(("RING" : Str), (360 : Int)), (("HALF" : Str), (180 : Int)), (("STARS" : Str), (24 : Int)), (("BRIGHT" : Str), (9 : Int)), (("HIGH" : Str), (90 : Int))] := hp
      simp only [List.mem_cons, List.not_mem_nil, or_false] at hp
      rcases hp with rfl | rfl | rfl | rfl | rfl
      · exact ⟨t0, PySem.W.mg_of X Gn g0⟩
      · exact ⟨t1, PySem.W.mg_of X Gn g1⟩
      · exact ⟨t2, PySem.W.mg_of X Gn g2⟩
      · exact ⟨t3, PySem.W.mg_of X Gn g3⟩
      · exact ⟨t4, PySem.W.mg_of X Gn g4⟩
    · intro x hx
      simp only [bltNames, List.mem_cons, List.not_mem_nil, or_false] at hx
      rcases hx with rfl | rfl | rfl | rfl | rfl | rfl | rfl | rfl | rfl | rfl | rfl | rfl | rfl | rfl | rfl | rfl | rfl | rfl | rfl | rfl
      · exact PySem.W.mg_none_of X Gn z0
      · exact PySem.W.mg_none_of X Gn z1
      · exact PySem.W.mg_none_of X Gn z2
      · exact PySem.W.mg_none_of X Gn z3
      · exact PySem.W.mg_none_of X Gn z4
      · exact PySem.W.mg_none_of X Gn z5
      · exact PySem.W.mg_none_of X Gn z6
      · exact PySem.W.mg_none_of X Gn z7
      · exact PySem.W.mg_none_of X Gn z8
      · exact PySem.W.mg_none_of X Gn z9
      · exact PySem.W.mg_none_of X Gn z10
      · exact PySem.W.mg_none_of X Gn z11
      · exact PySem.W.mg_none_of X Gn z12
      · exact PySem.W.mg_none_of X Gn z13
      · exact PySem.W.mg_none_of X Gn z14
      · exact PySem.W.mg_none_of X Gn z15
      · exact PySem.W.mg_none_of X Gn z16
      · exact PySem.W.mg_none_of X Gn z17
      · exact PySem.W.mg_none_of X Gn z18
      · exact PySem.W.mg_none_of X Gn z19
    · intro hg
      cases hg
  obtain ⟨fdata, B, F⟩ := law_ok (P := PySem.Challenge.pw_observatory_k78_whole_steps_told_by_heig) (w := w) O (wf := WF) (k := LV) (i := 23) (fd := f_law) rfl hlaw
  exact ⟨fdata, fun s v => .of_eq (B [v] rfl), fun base _ _ => F base⟩
theorem walk {l : PySem.W.OpenLaw} {q : Program} {loose : List Str} {XP : (Str → Option Value) → Heap → Prop} {YP : World → Heap → Prop} {d : DefRec} {K : Params → PySem.W.Frag} (hn : l.most = some 63) (hdf : d.params.defaults = [])
    (hY : ∀ (w : World) (h : Heap), YP w h → (K w.params).In h)
    (F : ∀ (w : World) (mg : Str → Option Value) (fa : Addr) (h : Heap), (K w.params).In h → h.Ns mainGlobals mg → mg d.name = some (.ref fa) →
      ∃ fd : FuncData, (∀ (s : Shared) (u : Value), BindsTo s fd ⟨[u], []⟩ [("script", u)]) ∧ ∀ base : Heap, (K w.params).In base → base.Ns mainGlobals mg → FnG l.prog w (K w.params) mg base (L2.CX l.prog w) LV fa fd ["script"] (spLawO (K w.params))) :
    PySem.W.WalkO q loose XP YP l.row.toRowW d [] (fun f vs => PySem.call f vs) :=
  walkG (n := 63) (k := LV) (x := "script") (CX := fun w => L2.CX l.prog w) (sp := fun w => spLawO (K w.params)) hn (by decide) hdf ⟨rfl, by decide, by decide⟩ hY F (fun _ _ a ns hl _ hS => ⟨a, ns, rfl, hS, hl, fun _ _ z => z⟩) fun _ _ _ _ _ z => by
    obtain ⟨_, _, _, _, _, _, _, _, _, _, _, _, z⟩ := z
    exact z
end Lk78
open PySem PySem.W PyProof.Rows in
set_option maxRecDepth 100000 in
set_option maxHeartbeats 0 in
theorem PySem.Challenge.cw_observatory_k78_whole_steps_told_by_heig_holds : PySem.Challenge.rw_observatory_k78_whole_steps_told_by_heig.Holds := by
  w_on; o_law; k_head; (case hw => w_witness2)
  k_fill
  refine Lk78.walk (l := PySem.Challenge.rw_observatory_k78_whole_steps_told_by_heig) rfl rfl (fun w h Y => PySem.W.kIn_of Y) ?F
  case F =>
    intro w mg fa h KX Gn hmg
    refine' Lk78.all_mk KX Gn hmg ?xxn0 ?xxl0 ?xxc0 ?xxk0 ?xxn1 ?xxl1 ?xxc1 ?xxk1 ?xxn2 ?xxl2 ?xxc2 ?xxk2 ?xxn3 ?xxl3 ?xxc3 ?xxk3 ?xxn4 ?xxl4 ?xxc4 ?xxk4 ?xxn5 ?xxl5 ?xxc5 ?xxk5 ?xxn6 ?xxl6 ?xxc6 ?xxk6 ?xxn7 ?xxl7 ?xxc7 ?xxk7 ?xxn8 ?xxl8 ?xxc8 ?xxk8 ?xxn9 ?xxl9 ?xxc9 ?xxk9 ?xxn10 ?xxl10 ?xxc10 ?xxk10 ?xxn11 ?xxl11 ?xxc11 ?xxk11 ?xxn12 ?xxl12 ?xxc12 ?xxk12 ?xxn13 ?xxl13 ?xxc13 ?xxk13 ?xxn14 ?xxl14 ?xxc14 ?xxk14 ?xxn15 ?xxl15 ?xxc15 ?xxk15 ?xxn16 ?xxl16 ?xxc16 ?xxk16 ?xxn17 ?xxl17 ?xxc17 ?xxk17 ?xxn18 ?xxl18 ?xxc18 ?xxk18 ?xxn19 ?xxl19 ?xxc19 ?xxk19 ?xxn20 ?xxl20 ?xxc20 ?xxk20 ?xxn21 ?xxl21 ?xxc21 ?xxk21 ?xxn22 ?xxl22 ?xxc22 ?xxk22 ?xxn23 ?xxl23 ?xxc23 ?xxk23 ?xxg0 ?xxg1 ?xxg2 ?xxg3 ?xxg4 ?xxz0 ?xxz1 ?xxz2 ?xxz3 ?xxz4 ?xxz5 ?xxz6 ?xxz7 ?xxz8 ?xxz9 ?xxz10 ?xxz11 ?xxz12 ?xxz13 ?xxz14 ?xxz15 ?xxz16 ?xxz17 ?xxz18 ?xxz19 Lk78.law_true
    (case xxn0 => k_is)
    (case xxl0 => k_is)
    (case xxc0 => k_is)
    (case xxk0 => k_is)
    (case xxn1 => k_is)
    (case xxl1 => k_is)
    (case xxc1 => k_is)
    (case xxk1 => k_is)
    (case xxn2 => k_is)
    (case xxl2 => k_is)
    (case xxc2 => k_is)
    (case xxk2 => k_is)
    (case xxn3 => k_is)
    (case xxl3 => k_is)
    (case xxc3 => k_is)
    (case xxk3 => k_is)
    (case xxn4 => k_is)
    (case xxl4 => k_is)
    (case xxc4 => k_is)
    (case xxk4 => k_is)
    (case xxn5 => k_is)
    (case xxl5 => k_is)
    (case xxc5 => k_is)
    (case xxk5 => k_is)
    (case xxn6 => k_is)
    (case xxl6 => k_is)
    (case xxc6 => k_is)
    (case xxk6 => k_is)
    (case xxn7 => k_is)
    (case xxl7 => k_is)
    (case xxc7 => k_is)
    (case xxk7 => k_is)
    (case xxn8 => k_is)
    (case xxl8 => k_is)
    (case xxc8 => k_is)
    (case xxk8 => k_is)
    (case xxn9 => k_is)
    (case xxl9 => k_is)
    (case xxc9 => k_is)
    (case xxk9 => k_is)
    (case xxn10 => k_is)
    (case xxl10 => k_is)
    (case xxc10 => k_is)
    (case xxk10 => k_is)
    (case xxn11 => k_is)
    (case xxl11 => k_is)
    (case xxc11 => k_is)
    (case xxk11 => k_is)
    (case xxn12 => k_is)
    (case xxl12 => k_is)
    (case xxc12 => k_is)
    (case xxk12 => k_is)
    (case xxn13 => k_is)
    (case xxl13 => k_is)
    (case xxc13 => k_is)
    (case xxk13 => k_is)
    (case xxn14 => k_is)
    (case xxl14 => k_is)
    (case xxc14 => k_is)
    (case xxk14 => k_is)
    (case xxn15 => k_is)
    (case xxl15 => k_is)
    (case xxc15 => k_is)
    (case xxk15 => k_is)
    (case xxn16 => k_is)
    (case xxl16 => k_is)
    (case xxc16 => k_is)
    (case xxk16 => k_is)
    (case xxn17 => k_is)
    (case xxl17 => k_is)
    (case xxc17 => k_is)
    (case xxk17 => k_is)
    (case xxn18 => k_is)
    (case xxl18 => k_is)
    (case xxc18 => k_is)
    (case xxk18 => k_is)
    (case xxn19 => k_is)
    (case xxl19 => k_is)
    (case xxc19 => k_is)
    (case xxk19 => k_is)
    (case xxn20 => k_is)
    (case xxl20 => k_is)
    (case xxc20 => k_is)
    (case xxk20 => k_is)
    (case xxn21 => k_is)
    (case xxl21 => k_is)
    (case xxc21 => k_is)
    (case xxk21 => k_is)
    (case xxn22 => k_is)
    (case xxl22 => k_is)
    (case xxc22 => k_is)
    (case xxk22 => k_is)
    (case xxn23 => k_is)
    (case xxl23 => k_is)
    (case xxc23 => k_is)
    (case xxk23 => k_is)
    (case xxg0 => k_is)
    (case xxg1 => k_is)
    (case xxg2 => k_is)
    (case xxg3 => k_is)
    (case xxg4 => k_is)
    (case xxz0 => k_is)
    (case xxz1 => k_is)
    (case xxz2 => k_is)
    (case xxz3 => k_is)
    (case xxz4 => k_is)
    (case xxz5 => k_is)
    (case xxz6 => k_is)
    (case xxz7 => k_is)
    (case xxz8 => k_is)
    (case xxz9 => k_is)
    (case xxz10 => k_is)
    (case xxz11 => k_is)
    (case xxz12 => k_is)
    (case xxz13 => k_is)
    (case xxz14 => k_is)
    (case xxz15 => k_is)
    (case xxz16 => k_is)
    (case xxz17 => k_is)
    (case xxz18 => k_is)
    (case xxz19 => k_is)
#print axioms PySem.Challenge.cw_observatory_k78_whole_steps_told_by_heig_holds

