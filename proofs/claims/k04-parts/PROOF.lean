import PyProof.Rows.All
import Wide.All
import OpenK.AllK
import Wide.FinOn
import HandS.ForMost
import HandS.ForExc
import HandS.ExcInit
import HandS.CallSlots
import HandS.ExcField
import HandS.ExcIs
import HandS.Wide
import HandS.IsInst
import HandS.Flow
import HandS.Zip
import HandS.Codes
import HandS.Style
import HandS.ExcCtx
import HandS.HotCalls
import HandS.ExcInitHot
import PyProof.ReprRoads
import HandS.EndBits
import HandS.WordsExc
import KE.DatumMore
import HandS.Walk
import PySem.Challenge.RW_oneworth_k04_parts
set_option Elab.async false
set_option maxRecDepth 100000
/-! the machine: values, store, the IR, its run -/
namespace VM
open PySem L2

inductive D where
  | non | bl (b : Bool) | int (i : Int) | str (s : Str) | ty (n : String) | fn (x : Str)
  | lst (xs : List D) | tup (xs : List D) | cell (n : Nat) | scr (ns : List Int)
  deriving Inhabited
inductive C where
  | lst (xs : List D) | dct (kvs : List (Key × D)) | ins (c : Str) (fs : List (Str × D))
abbrev Sto := List C
abbrev Ev := List (Option D)
structure Exc where
  cls : Str
  val : Option D
inductive R (α : Type) where
  | ok (a : α) (μ : Sto) | err (x : Exc) (μ : Sto) | bad
def R.bind {α β : Type} (r : R α) (f : α → Sto → R β) : R β := match r with
  | .ok a μ => f a μ
  | .err x μ => .err x μ
  | .bad => .bad
inductive RS where
  | nx (ρ : Ev) (μ : Sto) | ret (d : D) (f : Nat) (μ : Sto) | brk (ρ : Ev) (μ : Sto) | ct (ρ : Ev) (μ : Sto) | err (x : Exc) (ρ : Ev) (μ : Sto) | bad

mutual
inductive E where
  | bad | var (i : Nat) | non | bl (b : Bool) | int (i : Int) | str (s : Str) | glob (x : Str)
  | bin (op : Operator) (a b : E) | neg (a : E) | not (a : E) | and (a b : E) | or (a b : E)
  | cmp (op : CmpOp) (a b : E) | cmp2 (op op2 : CmpOp) (a b c : E) | ife (t a b : E)
  | lst (es : Es) | tup (es : Es) | ix (a i : E) | slc (a lo hi : E) | npart
  | call (f : Str) (es : Es) | bi (f : Str) (es : Es) | bm (o : E) (m : Str) (es : Es) | fld (o : E) (f : Str)
  | lc (elt : E) (tg : Tg) (it : It) (c : E) (own : List Nat) | thaw (e : E)
  | lcd (k : Nat) (elt : E) (tg : Tg) (it : It) (c : E) (own : List Nat) | thawn (k : Nat) (e : E) | rev (a : E)
  | calld (f : E) (es : Es)
inductive Es where
  | nil | cons (e : E) (es : Es)
inductive Tg where
  | bad | name (i : Nat) | tup (ts : Tgs) | sub (o i : E) | fld (o : E) (f : Str)
inductive Tgs where
  | nil | cons (t : Tg) (ts : Tgs)
inductive It where
  | ex (e : E) | rng1 (a : E) | rng2 (a b : E) | zip (a b : E) | enum (a : E)
end
mutual
inductive S where
  | bad | set (t : Tg) (e : E) | par (i j : Nat) (a b : E) | expr (e : E) | ret (e : E) | retn
  | ife (t : E) (a b : Ss) | for_ (t : Tg) (it : It) (b : Ss) | while_ (t : E) (b : Ss) | brk | cnt | pass
  | raise_ (c : Str) | try_ (b : Ss) (i j : Nat)
inductive Ss where
  | nil | cons (s : S) (ss : Ss)
end

/-- no list, no tuple -/
def flat : D → Bool
  | .lst _ => false
  | .tup _ => false
  | .scr _ => false
  | _ => true
/-! ### values -/
def itemsL (μ : Sto) : D → Option (List D)
  | .lst xs => some xs
  | .cell n => match μ[n]? with | some (.lst xs) => some xs | _ => none
  | _ => none
def itemsR (μ : Sto) : D → Option (List D)
  | .scr ns => some (ns.map .int)
  | d => itemsL μ d
def itemsS (μ : Sto) : D → Option (List D)
  | .tup xs => some xs
  | d => itemsR μ d
def toPy (μ : Sto) : Nat → D → Option PyData
  | 0, _ => none
  | _ + 1, .non => some .none
  | _ + 1, .bl b => some (.bool b)
  | _ + 1, .int i => some (.int i)
  | _ + 1, .str s => some (.str s)
  | n + 1, .lst xs => (xs.mapM (toPy μ n)).map PyData.list
  | n + 1, .tup xs => (xs.mapM (toPy μ n)).map PyData.tuple
  | n + 1, .cell l => match μ[l]? with | some (.lst xs) => (xs.mapM (toPy μ n)).map PyData.list | _ => none
  | _ + 1, .scr ns => some (.list (ns.map PyData.int))
  | _ + 1, _ => none
def eqS (μ : Sto) (a b : D) : Option Bool :=
  match toPy μ 9 a, toPy μ 9 b with
  | some x, some y => if SeqAt.shaped x && SeqAt.shaped y then some (PyData.eqv x y) else none
  | _, _ => none
def eqD (μ : Sto) (a b : D) : Option Bool :=
  match a, b with
  | .str x, .str y => some (decide (x = y))
  | a, b => eqS μ a b
def truD (μ : Sto) : D → Option Bool
  | .non => some false
  | .bl b => some b
  | .int i => some (i != 0)
  | .str s => if s.length ≤ sizeLine then some ((s.length : Int) != 0) else none
  | d => (itemsS μ d).map fun xs => !xs.isEmpty
def okR {α : Type} (o : Option α) (μ : Sto) : R α := match o with | some a => .ok a μ | none => .bad
def sh (o : Option D) (μ : Sto) : R (D × Nat) := okR (o.map fun d => (d, 0)) μ

def intOp (f : Int → Int → Option Int) (a b : D) (μ : Sto) : R (D × Nat) := match a with
  | .int i => (match b with | .int j => sh ((f i j).map .int) μ | _ => .bad)
  | _ => .bad
def addD (a b : D) (μ : Sto) : R (D × Nat) := match a with
  | .int i => (match b with | .int j => .ok (.int (i + j), 0) μ | _ => .bad)
  | .str x => (match b with | .str y => if x.length + y.length ≤ sizeLine then .ok (.str (x ++ y), 0) μ else .bad | _ => .bad)
  | .tup xs => (match b with | .tup ys => if xs ≠ [] ∧ ys ≠ [] ∧ xs.length + ys.length ≤ sizeLine then .ok (.tup (xs ++ ys), 0) μ else .bad | _ => .bad)
  | a => match itemsR μ a with
    | none => .bad
    | some xs => match itemsR μ b with
      | none => .bad
      | some ys => if xs.length + ys.length ≤ sizeLine then .ok (.lst (xs ++ ys), 1) μ else .bad
def mulD (a b : D) (μ : Sto) : R (D × Nat) := match b with
  | .int k => (match a with
    | .int i => if i.natAbs.log2 + k.natAbs.log2 < 130000000 then .ok (.int (i * k), 0) μ else .bad
    | a => match itemsL μ a with
      | none => .bad
      | some xs => if -(2 ^ 63) ≤ k ∧ k < 2 ^ 63 ∧ xs.length * k.toNat ≤ sizeLine then .ok (.lst (List.replicate k.toNat xs).flatten, 1) μ else .bad)
  | _ => .bad
def binD (op : Operator) (a b : D) (μ : Sto) : R (D × Nat) :=
  match op with
  | .Add => addD a b μ
  | .Mult => mulD a b μ
  | .Sub => intOp (fun i j => some (i - j)) a b μ
  | .Mod => intOp (fun i j => if j ≠ 0 then some (i.fmod j) else none) a b μ
  | .FloorDiv => intOp (fun i j => if j ≠ 0 then some (i.fdiv j) else none) a b μ
  | .Pow => intOp (fun i j => if 0 ≤ j ∧ j ≤ 1000000 ∧ i.natAbs < 2 ^ 64 then some (i ^ j.toNat) else none) a b μ
  | _ => .bad
def negD (d : D) (μ : Sto) : R (D × Nat) := match d with
  | .int i => .ok (.int (-i), 0) μ
  | _ => .bad
def strIn (x y : Str) : Bool := !(Builtin.Str.occurrences y x 0 y.length 1).isEmpty
def flatD : D → Bool
  | .non | .bl _ | .int _ | .str _ => true
  | _ => false
def vOf : D → V
  | .non => .non
  | .bl b => .bl b
  | .int i => .int i
  | .str s => .str s
  | _ => .non
def fnD : D → Bool
  | .fn _ => true
  | _ => false
def nonD : D → Bool
  | .non => true
  | _ => false
def inD (μ : Sto) (a b : D) : Option Bool := match b with
  | .str y => (match a with | .str x => some (strIn x y) | _ => none)
  | b => match itemsS μ b with
    | some xs => if flatD a && xs.all flatD then some (inV (vOf a) (xs.map vOf)) else none
    | none => none
def cmpD (op : CmpOp) (a b : D) (μ : Sto) : Option Bool :=
  match op with
  | .Eq => eqD μ a b
  | .NotEq => (eqD μ a b).map fun k => !k
  | .Lt => match a, b with | .int i, .int j => some (decide (i < j)) | _, _ => none
  | .LtE => match a, b with | .int i, .int j => some (decide (i ≤ j)) | _, _ => none
  | .Gt => match a, b with | .int i, .int j => some (decide (i > j)) | _, _ => none
  | .GtE => match a, b with | .int i, .int j => some (decide (i ≥ j)) | _, _ => none
  | .Is => if nonD b && !fnD a then some (nonD a) else none
  | .IsNot => if nonD b && !fnD a then some (!nonD a) else none
  | .In => inD μ a b
  | .NotIn => (inD μ a b).map fun k => !k
def cutD (xs : List D) (lo hi : Option Int) : List D := (xs.drop (HT.sIx xs.length 0 lo)).take (HT.sIx xs.length xs.length hi - HT.sIx xs.length 0 lo)
def slD (a : D) (lo hi : Option Int) (μ : Sto) : R (D × Nat) :=
  match itemsR μ a with
  | some xs => .ok (.lst (cutD xs lo hi), 1) μ
  | none => .bad
def partD : D → Option (Option Int)
  | .int i => some (some i)
  | .non => some none
  | _ => none
def ixD (a i : D) (μ : Sto) : Option D :=
  match i with
  | .int k => match itemsS μ a with
    | some xs => atI xs k
    | none => none
  | _ => none
/-- the type's name of a value -/
def tyD (μ : Sto) : D → Option String
  | .non => some "NoneType"
  | .bl _ => some "bool"
  | .int _ => some "int"
  | .str _ => some "str"
  | .lst _ => some "list"
  | .tup _ => some "tuple"
  | .scr _ => some "list"
  | .cell n => match μ[n]? with | some (.lst _) => some "list" | some (.dct _) => some "dict" | _ => none
  | _ => none
def isaT (t n : String) : Option Bool :=
  if ["int", "bool", "list", "str", "tuple"].contains n then some (t == n || (t == "bool" && n == "int")) else none
def lenD (ds : List D) (μ : Sto) : R (D × Nat) := match ds with
  | [d] => (match d with
    | .str s => if s.length ≤ sizeLine then .ok (.int s.length, 0) μ else .bad
    | d => sh ((itemsS μ d).map fun xs => .int xs.length) μ)
  | _ => .bad
def intD (ds : List D) (μ : Sto) : R (D × Nat) := match ds with
  | [d] => (match d with
    | .int i => .ok (.int i, 0) μ
    | .bl k => .ok (.int (if k then 1 else 0), 0) μ
    | _ => .bad)
  | _ => .bad
def absD (ds : List D) (μ : Sto) : R (D × Nat) := match ds with
  | [d] => (match d with
    | .int i => .ok (.int (if i < 0 then -i else i), 0) μ
    | _ => .bad)
  | _ => .bad
def ofI : D → Option Int
  | .int i => some i
  | _ => none
def ofB : D → Option Bool
  | .bl i => some i
  | _ => none
def maxL : List Int → Int
  | [] => 0
  | k :: ks => ks.foldl max k
def minL : List Int → Int
  | [] => 0
  | k :: ks => ks.foldl min k
def sortL (ks : List Int) : List Int := ks.mergeSort (fun a b => decide (a ≤ b))
def maxD (ds : List D) (μ : Sto) : R (D × Nat) := match ds with
  | [d] => (match (itemsL μ d).bind fun xs => xs.mapM ofI with
    | some ks => if ks ≠ [] then .ok (.int (maxL ks), 0) μ else .bad
    | none => .bad)
  | [d, e] => (match ofI d, ofI e with
    | some i, some j => .ok (.int (if j > i then j else i), 0) μ
    | _, _ => .bad)
  | _ => .bad
def minD (ds : List D) (μ : Sto) : R (D × Nat) := match ds with
  | [d] => (match (itemsL μ d).bind fun xs => xs.mapM ofI with
    | some ks => if ks ≠ [] then .ok (.int (minL ks), 0) μ else .bad
    | none => .bad)
  | [d, e] => (match ofI d, ofI e with
    | some i, some j => .ok (.int (if j < i then j else i), 0) μ
    | _, _ => .bad)
  | _ => .bad
def listD (ds : List D) (μ : Sto) : R (D × Nat) := match ds with
  | [d] => (match itemsS μ d with | some xs => .ok (.lst xs, 1) μ | none => .bad)
  | _ => .bad
def tupleD (ds : List D) (μ : Sto) : R (D × Nat) := match ds with
  | [d] => (match itemsS μ d with | some xs => .ok (.tup xs, 0) μ | none => .bad)
  | _ => .bad
def allD (ds : List D) (μ : Sto) : R (D × Nat) := match ds with
  | [d] => sh ((itemsL μ d).bind fun xs => (xs.mapM ofB).map fun ks => .bl (ks.all id)) μ
  | _ => .bad
def anyD (ds : List D) (μ : Sto) : R (D × Nat) := match ds with
  | [d] => sh ((itemsL μ d).bind fun xs => (xs.mapM ofB).map fun ks => .bl (ks.any id)) μ
  | _ => .bad
def sumD (ds : List D) (μ : Sto) : R (D × Nat) := match ds with
  | [d] => sh ((itemsL μ d).bind fun xs => (xs.mapM ofI).map fun ks => .int ks.sum) μ
  | _ => .bad
def isinD (ds : List D) (μ : Sto) : R (D × Nat) := match ds with
  | [d, e] => (match e with
    | .ty n => sh ((tyD μ d).bind fun t => (isaT t n).map .bl) μ
    | _ => .bad)
  | _ => .bad
def strD (ds : List D) (μ : Sto) : R (D × Nat) := match ds with
  | [d] => (match d with
    | .int i => if i.natAbs.log2 < 1920 then .ok (.str (toString i), 0) μ else .bad
    | .str x => .ok (.str x, 0) μ
    | .bl k => .ok (.str (if k then "True" else "False"), 0) μ
    | .non => .ok (.str "None", 0) μ
    | _ => .bad)
  | _ => .bad
/-- of a list, a tuple too -/
def strA (ds : List D) (μ : Sto) : R (D × Nat) := match ds with
  | [d] => (match toPy μ 9 d with
    | some (.list xs) => if (PyData.list xs).showable = true ∧ (PyData.list xs).shown.length ≤ sizeLine then .ok (.str (PyData.list xs).shown, 0) μ else .bad
    | some (.tuple xs) => if (PyData.tuple xs).showable = true ∧ (PyData.tuple xs).shown.length ≤ sizeLine then .ok (.str (PyData.tuple xs).shown, 0) μ else .bad
    | _ => strD ds μ)
  | _ => .bad
def sortD (ds : List D) (μ : Sto) : R (D × Nat) := match ds with
  | [d] => (match (itemsL μ d).bind fun xs => xs.mapM ofI with
    | some ks => if ks.length < 64 then .ok (.lst ((sortL ks).map .int), 1) μ else .bad
    | none => .bad)
  | _ => .bad
def biTab : List (Str × (List D → Sto → R (D × Nat))) := [("len", lenD), ("int", intD), ("abs", absD), ("max", maxD), ("min", minD), ("list", listD), ("tuple", tupleD), ("all", allD), ("any", anyD), ("sum", sumD), ("isinstance", isinD), ("sorted", sortD), ("str", strD), ("str*", strA)]
def biD (f : Str) (ds : List D) (μ : Sto) : R (D × Nat) := match biTab.lookup f with
  | some g => g ds μ
  | none => .bad
/-- no reference into the store -/
def noRef : Nat → D → Bool
  | 0, _ => false
  | _ + 1, .cell _ => false
  | n + 1, .lst xs => xs.all (noRef n)
  | n + 1, .tup xs => xs.all (noRef n)
  | _ + 1, _ => true
def mayPut (b l : Nat) (d : D) : Bool := decide (b ≤ l) || noRef 9 d
def appendD (b l : Nat) (xs : List D) (ds : List D) (μ : Sto) : R (D × Nat) := match ds with
  | [d] => if xs.length < sizeLine ∧ mayPut b l d = true then .ok (.non, 0) (μ.set l (.lst (xs ++ [d]))) else .bad
  | _ => .bad
def popD (b l : Nat) (xs : List D) (ds : List D) (μ : Sto) : R (D × Nat) := match ds with
  | [] => (match xs[xs.length - 1]? with | some y => .ok (y, 0) (μ.set l (.lst xs.dropLast)) | none => .bad)
  | [d] => (match d with
    | .int i => (match ixN xs.length i with
      | some k => (match xs[k]? with | some y => if -(2 ^ 63) ≤ i ∧ i < 2 ^ 63 then .ok (y, 0) (μ.set l (.lst (xs.eraseIdx k))) else .bad | none => .bad)
      | none => .bad)
    | _ => .bad)
  | _ => .bad
def extendD (b l : Nat) (xs : List D) (ds : List D) (μ : Sto) : R (D × Nat) := match ds with
  | [d] => (match d with
    | .lst ys => if xs.length + ys.length ≤ sizeLine ∧ ys.all (mayPut b l) = true then .ok (.non, 0) (μ.set l (.lst (xs ++ ys))) else .bad
    | _ => .bad)
  | _ => .bad
def insertD (b l : Nat) (xs : List D) (ds : List D) (μ : Sto) : R (D × Nat) := match ds with
  | [e, d] => (match e with
    | .int i => if (xs.length < sizeLine ∧ 0 ≤ i ∧ i < 2 ^ 63) ∧ mayPut b l d = true then .ok (.non, 0) (μ.set l (.lst (xs.take i.toNat ++ [d] ++ xs.drop i.toNat))) else .bad
    | _ => .bad)
  | _ => .bad
def clearD (b l : Nat) (xs : List D) (ds : List D) (μ : Sto) : R (D × Nat) := match ds with
  | [] => .ok (.non, 0) (μ.set l (.lst []))
  | _ => .bad
def bmTab : List (Str × (Nat → Nat → List D → List D → Sto → R (D × Nat))) := [("append", appendD), ("pop", popD), ("extend", extendD), ("insert", insertD), ("clear", clearD)]
def bmD (b : Nat) (m : Str) (o : D) (ds : List D) (μ : Sto) : R (D × Nat) := match bmTab.lookup m with
  | some g => (match o with
    | .cell l => (match μ[l]? with
      | some (.lst xs) => g b l xs ds μ
      | _ => .bad)
    | _ => .bad)
  | none => .bad
def setD (b : Nat) (o i v : D) (μ : Sto) : Option Sto :=
  match o, i with
  | .cell l, .int k => match μ[l]? with
    | some (.lst xs) => match ixN xs.length k with
      | some j => if mayPut b l v then some (μ.set l (.lst (xs.set j v))) else none
      | none => none
    | _ => none
  | _, _ => none

/-! ### what is walked -/
inductive Src where
  | data (xs : List D) | cell (n : Nat) | zip (a b : Src) | enum (a : Src)
inductive Nx where
  | bad | done | item (d : D)
def nxO : Option D → Nx
  | some d => .item d
  | none => .done
def nxZ : Nx → Nx → Nx
  | .item x, .item y => .item (.tup [x, y])
  | .bad, _ => .bad
  | _, .bad => .bad
  | _, _ => .done
def nxE (i : Nat) : Nx → Nx
  | .item x => .item (.tup [.int (i : Nat), x])
  | r => r
def Src.at (μ : Sto) (i : Nat) : Src → Nx
  | .data xs => nxO xs[i]?
  | .cell n => match μ[n]? with | some (.lst xs) => nxO xs[i]? | _ => .bad
  | .zip a b => nxZ (a.at μ i) (b.at μ i)
  | .enum a => nxE i (a.at μ i)
def Src.size (μ : Sto) : Src → Nat
  | .data xs => xs.length
  | .cell n => match μ[n]? with | some (.lst xs) => xs.length | _ => 0
  | .zip a b => min (a.size μ) (b.size μ)
  | .enum a => a.size μ
def srcL (μ : Sto) : D → Option Src
  | .lst xs => some (.data xs)
  | .cell n => match μ[n]? with | some (.lst _) => some (.cell n) | _ => none
  | .scr ns => some (.data (ns.map .int))
  | _ => none
def rangeD (lo : Int) (n : Nat) : List D := (List.range n).map fun i => .int (lo + (i : Nat))
def smallI (i : Int) : Bool := decide (-(2 ^ 62) ≤ i) && decide (i < 2 ^ 62)

structure Tb where
  call : Str → Nat → List D → Sto → R (D × Nat)
  glob : Str → Option D
  wh : (Nat → RS) → RS

def thawL (f : D → Sto → D × Sto) : List D → Sto → List D × Sto
  | [], μ => ([], μ)
  | x :: xs, μ => ((f x μ).1 :: (thawL f xs (f x μ).2).1, (thawL f xs (f x μ).2).2)
/-- k levels of new lists become cells -/
def thawD : Nat → Nat → D → Sto → D × Sto
  | 0, _, d, μ => (d, μ)
  | _ + 1, 0, d, μ => (d, μ)
  | n + 1, k + 1, d, μ => match d with
    | .lst xs => (.cell (thawL (thawD n k) xs μ).2.length, (thawL (thawD n k) xs μ).2 ++ [.lst (thawL (thawD n k) xs μ).1])
    | .tup xs => (.tup (thawL (thawD n (k + 1)) xs μ).1, (thawL (thawD n (k + 1)) xs μ).2)
    | d => (d, μ)
/-- targets that are names alone -/
def bindL : Nat → Tg → D → Ev → Option Ev
  | 0, _, _, _ => none
  | _ + 1, .name i, d, ρ => some (ρ.set i (some d))
  | n + 1, .tup (.cons s (.cons t .nil)), .tup [x, y], ρ => (bindL n s x ρ).bind (bindL n t y)
  | _ + 1, _, _, _ => none
def wipeD : Ev → List Nat → Ev
  | ρ, [] => ρ
  | ρ, v :: vs => (wipeD ρ vs).set v none
def lcLoop (f : D → Sto → R (Option D)) (src : Src) : Nat → Nat → List D → Sto → R (List D)
  | 0, _, _, _ => .bad
  | k + 1, i, acc, μ => match src.at μ i with
    | .bad => .bad
    | .done => .ok acc μ
    | .item x => (f x μ).bind fun y μ1 => match y with
      | none => lcLoop f src k (i + 1) acc μ1
      | some d => if acc.length < sizeLine then lcLoop f src k (i + 1) (acc ++ [d]) μ1 else .bad
def noErr {α : Type} (r : R α) : R α := match r with | .err _ _ => .bad | r => r

mutual
def evE (T : Tb) (b : Nat) : E → Ev → Sto → R (D × Nat)
  | .bad, _, _ => .bad
  | .npart, _, μ => .ok (.non, 0) μ
  | .var i, ρ, μ => match ρ[i]? with | some (some d) => .ok (d, 0) μ | _ => .bad
  | .non, _, μ => .ok (.non, 0) μ
  | .bl k, _, μ => .ok (.bl k, 0) μ
  | .int i, _, μ => .ok (.int i, 0) μ
  | .str s, _, μ => .ok (.str s, 0) μ
  | .glob x, _, μ => sh (T.glob x) μ
  | .bin op x y, ρ, μ => (evE T b x ρ μ).bind fun d μ1 => (evE T b y ρ μ1).bind fun e μ2 => binD op d.1 e.1 μ2
  | .neg x, ρ, μ => (evE T b x ρ μ).bind fun d μ1 => negD d.1 μ1
  | .not x, ρ, μ => (evE T b x ρ μ).bind fun d μ1 => sh ((truD μ1 d.1).map fun k => .bl !k) μ1
  | .and x y, ρ, μ => (evE T b x ρ μ).bind fun d μ1 => match truD μ1 d.1 with | some true => evE T b y ρ μ1 | some false => .ok (d.1, 0) μ1 | none => .bad
  | .or x y, ρ, μ => (evE T b x ρ μ).bind fun d μ1 => match truD μ1 d.1 with | some false => evE T b y ρ μ1 | some true => .ok (d.1, 0) μ1 | none => .bad
  | .cmp op x y, ρ, μ => (evE T b x ρ μ).bind fun d μ1 => (evE T b y ρ μ1).bind fun e μ2 => sh ((cmpD op d.1 e.1 μ2).map .bl) μ2
  | .cmp2 op op2 x y z, ρ, μ => (evE T b x ρ μ).bind fun d μ1 => (evE T b y ρ μ1).bind fun e μ2 => match cmpD op d.1 e.1 μ2 with
    | some true => (evE T b z ρ μ2).bind fun g μ3 => sh ((cmpD op2 e.1 g.1 μ3).map .bl) μ3
    | some false => .ok (.bl false, 0) μ2
    | none => .bad
  | .ife t x y, ρ, μ => (evE T b t ρ μ).bind fun d μ1 => match truD μ1 d.1 with | some true => evE T b x ρ μ1 | some false => evE T b y ρ μ1 | none => .bad
  | .lst es, ρ, μ => (evEs T b es ρ μ).bind fun ds μ1 => if ds.length ≤ sizeLine then .ok (.lst ds, 1) μ1 else .bad
  | .tup es, ρ, μ => (evEs T b es ρ μ).bind fun ds μ1 => if ds.length ≤ sizeLine then .ok (.tup ds, 0) μ1 else .bad
  | .ix x i, ρ, μ => (evE T b x ρ μ).bind fun d μ1 => (evE T b i ρ μ1).bind fun e μ2 => sh (ixD d.1 e.1 μ2) μ2
  | .slc x lo hi, ρ, μ => (evE T b x ρ μ).bind fun d μ1 => (evE T b lo ρ μ1).bind fun l μ2 => match partD l.1 with
    | none => .bad
    | some lv => (evE T b hi ρ μ2).bind fun h μ3 => match partD h.1 with
      | none => .bad
      | some hv => slD d.1 lv hv μ3
  | .call f es, ρ, μ => (evEs T b es ρ μ).bind fun ds μ1 => T.call f b ds μ1
  | .bi f es, ρ, μ => (evEs T b es ρ μ).bind fun ds μ1 => biD f ds μ1
  | .bm o m es, ρ, μ => (evE T b o ρ μ).bind fun d μ1 => match itemsL μ1 d.1 with
    | none => .bad
    | some _ => (evEs T b es ρ μ1).bind fun ds μ2 => bmD b m d.1 ds μ2
  | .fld _ _, _, _ => .bad
  | .lc elt tg it c own, ρ, μ => (evIt T b it ρ μ).bind fun src μ1 =>
      (noErr (lcLoop (fun x μ => match bindL 3 tg x (wipeD ρ own) with
        | none => .bad
        | some ρ1 => (evE T b c ρ1 μ).bind fun k μ1 => match truD μ1 k.1 with
          | some true => (evE T b elt ρ1 μ1).bind fun y μ2 => .ok (some y.1) μ2
          | some false => .ok none μ1
          | none => .bad) src (src.size μ1 + 1) 0 [] μ1)).bind fun xs μ2 => .ok (.lst xs, 1) μ2
  | .thaw e, ρ, μ => (evE T b e ρ μ).bind fun d μ1 => match d with
    | (.lst xs, f + 1) => .ok (.cell μ1.length, 0) (μ1 ++ [.lst xs])
    | _ => .bad
  | .thawn k e, ρ, μ => (evE T b e ρ μ).bind fun d μ1 => if k ≤ d.2 then .ok ((thawD 9 k d.1 μ1).1, 0) (thawD 9 k d.1 μ1).2 else .bad
  | .calld f es, ρ, μ => (evE T b f ρ μ).bind fun d μ1 => match d.1 with
    | .fn x => (noErr (evEs T b es ρ μ1)).bind fun ds μ2 => T.call x b ds μ2
    | _ => .bad
  | .rev e, ρ, μ => (evE T b e ρ μ).bind fun d μ1 => match itemsL μ1 d.1 with
    | some xs => .ok (.lst xs.reverse, 1) μ1
    | none => .bad
  | .lcd k elt tg it c own, ρ, μ => (evIt T b it ρ μ).bind fun src μ1 => (noErr (lcLoop (fun x μ => match bindL 3 tg x (wipeD ρ own) with
      | none => .bad
      | some ρ1 => (evE T b c ρ1 μ).bind fun t μ1 => match truD μ1 t.1 with
        | some true => (evE T b elt ρ1 μ1).bind fun y μ2 => if k ≤ y.2 then .ok (some y.1) μ2 else .bad
        | some false => .ok none μ1
        | none => .bad) src (src.size μ1 + 1) 0 [] μ1)).bind fun xs μ2 => .ok (.lst xs, k + 1) μ2
def evEs (T : Tb) (b : Nat) : Es → Ev → Sto → R (List D)
  | .nil, _, μ => .ok [] μ
  | .cons e es, ρ, μ => (evE T b e ρ μ).bind fun d μ1 => (evEs T b es ρ μ1).bind fun ds μ2 => .ok (d.1 :: ds) μ2
def evIt (T : Tb) (b : Nat) : It → Ev → Sto → R Src
  | .ex e, ρ, μ => (evE T b e ρ μ).bind fun d μ1 => okR (match d.1 with | .tup xs => some (.data xs) | d => srcL μ1 d) μ1
  | .rng1 e, ρ, μ => (evE T b e ρ μ).bind fun d μ1 => match d.1 with | .int j => if smallI j then .ok (.data (rangeD 0 j.toNat)) μ1 else .bad | _ => .bad
  | .rng2 e g, ρ, μ => (evE T b e ρ μ).bind fun d μ1 => (evE T b g ρ μ1).bind fun h μ2 => match d.1, h.1 with
    | .int i, .int j => if smallI i && smallI j then .ok (.data (rangeD i (j - i).toNat)) μ2 else .bad
    | _, _ => .bad
  | .zip e g, ρ, μ => (evE T b e ρ μ).bind fun d μ1 => (evE T b g ρ μ1).bind fun h μ2 => match srcL μ2 d.1, srcL μ2 h.1 with
    | some x, some y => .ok (.zip x y) μ2
    | _, _ => .bad
  | .enum e, ρ, μ => (evE T b e ρ μ).bind fun d μ1 => okR ((srcL μ1 d.1).map .enum) μ1
end

def tgsLen : Tgs → Nat
  | .nil => 0
  | .cons _ ts => tgsLen ts + 1
mutual
def asg (T : Tb) (b : Nat) : Tg → D → Ev → Sto → RS
  | .bad, _, _, _ => .bad
  | .name i, d, ρ, μ => .nx (ρ.set i (some d)) μ
  | .tup ts, .tup xs, ρ, μ => if xs.length = tgsLen ts then asgs T b ts xs ρ μ else .bad
  | .tup _, _, _, _ => .bad
  | .sub o i, d, ρ, μ => match evE T b o ρ μ with
    | .ok od μ1 => match evE T b i ρ μ1 with
      | .ok id μ2 => match setD b od.1 id.1 d μ2 with | some μ3 => .nx ρ μ3 | none => .bad
      | .err x μ2 => .err x ρ μ2
      | .bad => .bad
    | .err x μ1 => .err x ρ μ1
    | .bad => .bad
  | .fld _ _, _, _, _ => .bad
def asgs (T : Tb) (b : Nat) : Tgs → List D → Ev → Sto → RS
  | .nil, [], ρ, μ => .nx ρ μ
  | .cons t ts, d :: ds, ρ, μ => match asg T b t d ρ μ with
    | .nx ρ1 μ1 => asgs T b ts ds ρ1 μ1
    | r => r
  | _, _, _, _ => .bad
end
def R.st {α : Type} (r : R α) (ρ : Ev) (f : α → Sto → RS) : RS := match r with
  | .ok a μ => f a μ
  | .err x μ => .err x ρ μ
  | .bad => .bad
def forLoop (asn : D → Ev → Sto → RS) (body : Ev → Sto → RS) (src : Src) : Nat → Nat → Ev → Sto → RS
  | 0, _, _, _ => .bad
  | k + 1, i, ρ, μ => match src.at μ i with
    | .bad => .bad
    | .done => .nx ρ μ
    | .item x => match asn x ρ μ with
      | .nx ρ1 μ1 => match body ρ1 μ1 with
        | .nx ρ2 μ2 => forLoop asn body src k (i + 1) ρ2 μ2
        | .ct ρ2 μ2 => forLoop asn body src k (i + 1) ρ2 μ2
        | .brk ρ2 μ2 => .nx ρ2 μ2
        | r => r
      | .err x ρ μ => .err x ρ μ
      | _ => .bad
def whLoop (test : Ev → Sto → R Bool) (body : Ev → Sto → RS) : Nat → Ev → Sto → RS
  | 0, _, _ => .bad
  | k + 1, ρ, μ => (test ρ μ).st ρ fun t μ1 => match t with
    | false => .nx ρ μ1
    | true => match body ρ μ1 with
      | .nx ρ2 μ2 => whLoop test body k ρ2 μ2
      | .ct ρ2 μ2 => whLoop test body k ρ2 μ2
      | .brk ρ2 μ2 => .nx ρ2 μ2
      | r => r
def tst (r : R (D × Nat)) : R Bool := r.bind fun d μ => okR (truD μ d.1) μ
/-- the program's own refusals -/
def excNames : List Str := ["NoMatch", "NoNumber", "NoRow", "NoSize", "NoStep", "NoText", "NothingLeft", "NoWorth", "TooMany"]
def onlyNx : RS → RS
  | .nx ρ μ => .nx ρ μ
  | .err x ρ μ => .err x ρ μ
  | _ => .bad
mutual
def runS (T : Tb) (b : Nat) : S → Ev → Sto → RS
  | .bad, _, _ => .bad
  | .set t e, ρ, μ => (evE T b e ρ μ).st ρ fun d μ1 => onlyNx (asg T b t d.1 ρ μ1)
  | .par i j x y, ρ, μ => (evE T b x ρ μ).st ρ fun d μ1 => (evE T b y ρ μ1).st ρ fun e μ2 => .nx ((ρ.set i (some d.1)).set j (some e.1)) μ2
  | .expr e, ρ, μ => (evE T b e ρ μ).st ρ fun _ μ1 => .nx ρ μ1
  | .ret e, ρ, μ => (evE T b e ρ μ).st ρ fun d μ1 => .ret d.1 d.2 μ1
  | .retn, _, μ => .ret .non 0 μ
  | .ife t x y, ρ, μ => (tst (evE T b t ρ μ)).st ρ fun k μ1 => match k with | true => runSs T b x ρ μ1 | false => runSs T b y ρ μ1
  | .for_ t it x, ρ, μ => (evIt T b it ρ μ).st ρ fun src μ1 => forLoop (asg T b t) (fun ρ μ => runSs T b x ρ μ) src (src.size μ1 + 1) 0 ρ μ1
  | .while_ t x, ρ, μ => T.wh fun n => whLoop (fun ρ μ => tst (evE T b t ρ μ)) (fun ρ μ => runSs T b x ρ μ) n ρ μ
  | .raise_ c, ρ, μ => .err ⟨c, none⟩ ρ μ
  | .try_ x i j, ρ, μ => match runSs T b x ρ μ with
    | .err e ρ1 μ1 => if excNames.contains e.cls && e.val.isNone && decide (j < ρ1.length) then .nx ((ρ1.set i (some (.str (e.cls ++ "+")))).set j none) μ1 else .bad
    | r => r
  | .brk, ρ, μ => .brk ρ μ
  | .cnt, ρ, μ => .ct ρ μ
  | .pass, ρ, μ => .nx ρ μ
def runSs (T : Tb) (b : Nat) : Ss → Ev → Sto → RS
  | .nil, ρ, μ => .nx ρ μ
  | .cons s ss, ρ, μ => match runS T b s ρ μ with
    | .nx ρ1 μ1 => runSs T b ss ρ1 μ1
    | r => r
end

/-! ### defs -/
structure Fn where
  ps : Nat
  ns : Nat
  keep : Bool
  body : Ss
/-- cells from n on made data -/
def frz (n : Nat) (μ : Sto) : Nat → D → Option D
  | 0, _ => none
  | k + 1, .lst xs => (xs.mapM (frz n μ k)).map .lst
  | k + 1, .tup xs => (xs.mapM (frz n μ k)).map .tup
  | k + 1, .cell l => if l < n then some (.cell l) else match μ[l]? with | some (.lst xs) => (xs.mapM (frz n μ k)).map .lst | _ => none
  | _ + 1, d => some d
/-- the cells that are made data, in order -/
def ids (n : Nat) (μ : Sto) : Nat → D → List Nat
  | 0, _ => []
  | k + 1, .lst xs => xs.flatMap (ids n μ k)
  | k + 1, .tup xs => xs.flatMap (ids n μ k)
  | k + 1, .cell l => if l < n then [] else match μ[l]? with | some (.lst xs) => l :: xs.flatMap (ids n μ k) | _ => []
  | _ + 1, _ => []
/-- how many levels of cells -/
def dep (n : Nat) (μ : Sto) : Nat → D → Nat
  | 0, _ => 0
  | _ + 1, .lst _ => 0
  | k + 1, .tup xs => (xs.map (dep n μ k)).foldr min 9
  | k + 1, .cell l => if l < n then 9 else match μ[l]? with | some (.lst xs) => (xs.map (dep n μ k)).foldr min 8 + 1 | _ => 0
  | _ + 1, .scr _ => 0
  | _ + 1, _ => 9
def ownF (n : Nat) (d : D) (μ : Sto) : Nat := if (ids n μ 10 d).Nodup then dep n μ 10 d else 0
def frzTop (n : Nat) (d : D) (f : Nat) (μ : Sto) : Option (D × Nat) := match d with
  | .cell l => if l < n then some (.cell l, 0) else (frz n μ 10 (.cell l)).map fun d' => (d', ownF n (.cell l) μ)
  | .tup xs => (frz n μ 10 (.tup xs)).map fun d' => (d', if f = 0 then ownF n (.tup xs) μ else if noRef 9 (.tup xs) then f else 0)
  | .lst xs => (frz n μ 9 (.lst xs)).map fun d' => (d', if f ≤ 1 then f else if noRef 9 (.lst xs) then f else 1)
  | d => some (d, 0)
def fin (keep : Bool) (n : Nat) (d : D) (f : Nat) (μ : Sto) : R (D × Nat) :=
  if keep then .ok (d, f) μ else okR (frzTop n d f μ) (μ.take n)
def exitF (keep : Bool) (n : Nat) : RS → R (D × Nat)
  | .nx _ μ => fin keep n .non 0 μ
  | .ret d f μ => fin keep n d f μ
  | .err x _ μ => .err x (if keep then μ else μ.take n)
  | _ => .bad
def runFn (T : Tb) (fn : Fn) (b : Nat) (ds : List D) (μ : Sto) : R (D × Nat) :=
  if ds.length = fn.ps then exitF fn.keep μ.length (runSs T (if fn.keep then b else μ.length) fn.body (ds.map some ++ List.replicate (fn.ns - fn.ps) none) μ) else .bad
structure Pg where
  fns : Str → Option Fn
  glob : Str → Option D
  wh : (Nat → RS) → RS
def tb (P : Pg) : Nat → Tb
  | 0 => ⟨fun _ _ _ _ => .bad, P.glob, P.wh⟩
  | n + 1 => ⟨fun f b ds μ => match P.fns f with | some fn => runFn (tb P n) fn b ds μ | none => .bad, P.glob, P.wh⟩

/-! ### the translation -/
abbrev Sc := List (Str × NameKind)
def slotOf : List Str → Str → Option Nat
  | [], _ => none
  | y :: r, x => if y = x then some 0 else (slotOf r x).map (· + 1)
def isLoc : Option NameKind → Bool
  | some .local => true
  | some .cell => true
  | some .free => true
  | _ => false
def isStar : Expr → Bool
  | .Starred .. => true
  | _ => false
def isLc : Expr → Bool
  | .ListComp .. | .SetComp .. | .DictComp .. => true
  | _ => false
def biNames : List Str := ["len", "int", "abs", "max", "min", "list", "tuple", "all", "any", "sum", "isinstance", "sorted"]
def bmNames : List Str := ["append", "pop", "extend", "insert", "clear"]
def tyNames : List Str := ["int", "bool", "list", "str", "tuple"]
structure Tr where
  th : List (Nat × Nat × Nat)
  td : List ((Nat × Nat × Nat) × Nat)
  ld : List ((Nat × Nat × Nat) × Nat)
  rz : List Str
  tr : Bool
  N : List Str
  defs : List Str
  cs : Bool
def withTh (X : Tr) (p : Pos) (e : E) : E := if X.th.contains (p.line, p.col, p.endCol) then .thaw e else match X.td.lookup (p.line, p.col, p.endCol) with | some k => .thawn k e | none => e
def lcE (X : Tr) (p : Pos) (ee : E) (tg : Tg) (it : It) (ce : E) (own : List Nat) : E := match X.ld.lookup (p.line, p.col, p.endCol) with | some k => .lcd k ee tg it ce own | none => .lc ee tg it ce own
def relN (names sc : Sc) : Sc := names.map fun y => if (y.2 == .free && sc.lookup y.1 == some .cell) then (y.1, .cell) else y
def esOf : List E → Es
  | [] => .nil
  | e :: r => .cons e (esOf r)
def tgsOf : List Tg → Tgs
  | [] => .nil
  | e :: r => .cons e (tgsOf r)
def boolE (op : BoolOp) : List E → E
  | [] => .bad
  | [a] => a
  | a :: r => match op with | .And => .and a (boolE op r) | .Or => .or a (boolE op r)
def isSet : Expr → Bool
  | .Set .. => true
  | _ => false
def isSlice : Expr → Bool
  | .Slice .. => true
  | _ => false
def ownOf (N : List Str) (names : Sc) : List (Str × Nat) := names.filterMap fun y => match y.2 with
  | .local | .cell => (slotOf N y.1).map fun i => (y.1, i)
  | _ => none
def simpleO : Expr → Bool
  | .Name .. => true
  | .Attribute .. => true
  | .Subscript .. => true
  | _ => false
def isNeg1 : Expr → Bool
  | .UnaryOp op a _ => op == .USub && (match a with | .Constant c _ _ => (match c with | .int i => i == 1 | _ => false) | _ => false)
  | _ => false
def isTup : Expr → Bool
  | .Tuple .. => true
  | _ => false
mutual
def tgIn (own : List Nat) : Tg → Bool
  | .name i => own.contains i
  | .tup ts => tgsIn own ts
  | _ => false
def tgsIn (own : List Nat) : Tgs → Bool
  | .nil => true
  | .cons t ts => tgIn own t && tgsIn own ts
end
def globN (sc : Sc) (x : Str) : Bool := sc.lookup x == some .globalImplicit
mutual
def trE (X : Tr) : Nat → Sc → Expr → E
  | 0, _, _ => .bad
  | n + 1, sc, e => match e with
    | .Constant c _ _ => match c with | .int i => .int i | .bool b => .bl b | .none => .non | .str s => .str s | _ => .bad
    | .Name x _ => if x == "__debug__" || x == "__classdict__" then .bad else if isLoc (sc.lookup x) then (match slotOf X.N x with | some i => .var i | none => .bad) else if globN sc x then .glob x else .bad
    | .BinOp a op b p => withTh X p (.bin op (trE X n sc a) (trE X n sc b))
    | .UnaryOp op a _ => match op with | .USub => .neg (trE X n sc a) | .Not => .not (trE X n sc a) | _ => .bad
    | .BoolOp op vs _ => boolE op (vs.map (trE X n sc))
    | .Compare a ops bs _ => match ops, bs with
      | [op], [b] => if isSet b then .bad else .cmp op (trE X n sc a) (trE X n sc b)
      | [op, op2], [b, c] => if isSet c then .bad else .cmp2 op op2 (trE X n sc a) (trE X n sc b) (trE X n sc c)
      | _, _ => .bad
    | .IfExp t a b _ => .ife (trE X n sc t) (trE X n sc a) (trE X n sc b)
    | .List es p => if es.any isStar then .bad else withTh X p (.lst (esOf (es.map (trE X n sc))))
    | .Tuple es _ _ => if es.any isStar then .bad else .tup (esOf (es.map (trE X n sc)))
    | .Subscript a i p => match i with
      | .Slice lo hi st _ => match st with
        | none => withTh X p (.slc (trE X n sc a) (match lo with | some l => trE X n sc l | none => .npart) (match hi with | some l => trE X n sc l | none => .npart))
        | some s => if isNeg1 s && lo.isNone && hi.isNone then withTh X p (.rev (trE X n sc a)) else .bad
      | _ => .ix (trE X n sc a) (trE X n sc i)
    | .Call f es ks p => if es.any isStar || !ks.isEmpty then .bad else match f with
      | .Name x _ => if globN sc x then (if X.defs.contains x && x != "__debug__" && !es.isEmpty then withTh X p (.call x (esOf (es.map (trE X n sc)))) else if biNames.contains x && !es.isEmpty then withTh X p (.bi x (esOf (es.map (trE X n sc)))) else if x == "str" && !es.isEmpty then withTh X p (.bi (if X.cs then "str*" else "str") (esOf (es.map (trE X n sc)))) else .bad) else .bad
      | .Attribute o m ap => if bmNames.contains m && simpleO o && (ap.endLine == p.line) && decide (es.length < 30) then withTh X p (.bm (trE X n sc o) m (esOf (es.map (trE X n sc)))) else .bad
      | .Subscript a i p2 => if isSlice i || es.isEmpty then .bad else withTh X p (.calld (.ix (trE X n sc a) (trE X n sc i)) (esOf (es.map (trE X n sc))))
      | _ => .bad
    | .ListComp elt gs scope p => match gs with
      | [⟨tg, it, ifs, a⟩] => if a = 0 then if blkC X.N ⟨.function, sc, false, false, []⟩ scope (ownOf X.N scope.names) && tgIn ((ownOf X.N scope.names).map (·.2)) (trN X n (relN scope.names sc) tg) && !isSet it then
          withTh X p (lcE X p (trE X n (relN scope.names sc) elt) (trN X n (relN scope.names sc) tg) (trI X n sc (isTup tg) it) (match ifs with | [] => .bl true | [c] => trE X n (relN scope.names sc) c | _ => .bad) ((ownOf X.N scope.names).map (·.2)))
        else .bad else .bad
      | _ => .bad
    | _ => .bad
/-- a target of names alone -/
def trN (X : Tr) : Nat → Sc → Expr → Tg
  | 0, _, _ => .bad
  | n + 1, sc, e => match e with
    | .Name x _ => if sc.lookup x == some .local || sc.lookup x == some .cell then (match slotOf X.N x with | some i => .name i | none => .bad) else .bad
    | .Tuple es _ _ => if es.any isStar then .bad else .tup (tgsOf (es.map (trN X n sc)))
    | _ => .bad
def trI (X : Tr) : Nat → Sc → Bool → Expr → It
  | 0, _, _, _ => .ex .bad
  | n + 1, sc, tt, e => match e with
    | .Call f es ks _ => (match f with
      | .Name x _ => if globN sc x && !X.defs.contains x && ks.isEmpty then
        (if x == "range" then (match es with
          | [a] => if isStar a then .ex .bad else .rng1 (trE X n sc a)
          | [a, b] => if isStar a || isStar b then .ex .bad else .rng2 (trE X n sc a) (trE X n sc b)
          | _ => .ex .bad)
        else if x == "zip" then (match es with
          | [a, b] => if isStar a || isStar b || !tt then .ex .bad else .zip (trE X n sc a) (trE X n sc b)
          | _ => .ex .bad)
        else if x == "enumerate" then (match es with
          | [a] => if isStar a || !tt then .ex .bad else .enum (trE X n sc a)
          | _ => .ex .bad)
        else .ex (trE X n sc e))
        else .ex (trE X n sc e)
      | _ => .ex (trE X n sc e))
    | _ => .ex (trE X n sc e)
end
def isListE : Expr → Bool
  | .List .. => true
  | _ => false
def locName (sc : Sc) (line : Nat) : Expr → Bool
  | .Name x p => sc.lookup x == some .local && p.line == line
  | _ => false
def lineOf : List Expr → Nat
  | [] => 0
  | e :: _ => e.pos.line
def ssOf : List S → Ss
  | [] => .nil
  | s :: r => .cons s (ssOf r)
def trAsg (X : Tr) (sc : Sc) (t e : Expr) : S := match t, e with
  | .Tuple ts k p, .Tuple es k2 p2 =>
    if ts.all (locName sc (lineOf ts)) then (match ts, es with
      | [.Name x _, .Name y _], [a, b] => if x == y || isStar a || isStar b || es.all (foldedForSure 8) || es.all (constantsAlone 8) then .bad else (match slotOf X.N x, slotOf X.N y with
        | some i, some j => .par i j (trE X 60 sc a) (trE X 60 sc b)
        | _, _ => .bad)
      | _, _ => .bad)
    else .set (trT' X sc (.Tuple ts k p)) (trE X 60 sc (.Tuple es k2 p2))
  | .Name x p, .ListComp elt gs scope p2 =>
    if sc.lookup x == some .cell then .set (trT' X sc (.Name x p)) (trE X 60 sc (.ListComp elt gs scope p2))
    else if sc.lookup x == some .local && p.line == p2.line && !(scope.names.any fun y => y.1 == x && (y.2 == .local || y.2 == .cell)) then
      (match slotOf X.N x with | some i => .set (.name i) (trE X 60 sc (.ListComp elt gs scope p2)) | none => .bad)
    else .bad
  | t, e => if isStar t || isListE t then .bad else .set (trT' X sc t) (trE X 60 sc e)
where
  trT' (X : Tr) (sc : Sc) (e : Expr) : Tg := match e with
  | .Name x p => trN X 60 sc (.Name x p)
  | .Subscript o i _ => if isSlice i then .bad else .sub (trE X 60 sc o) (trE X 60 sc i)
  | .Tuple es _ _ => if es.any isStar then .bad else .tup (tgsOf (es.map fun t => match t with
    | .Name x p => trN X 60 sc (.Name x p)
    | .Subscript o i _ => if isSlice i then .bad else .sub (trE X 60 sc o) (trE X 60 sc i)
    | .Tuple es k p => trN X 60 sc (.Tuple es k p)
    | _ => .bad))
  | _ => .bad
/-- raise C('..') -/
def raiseOf : Option Expr → Option Expr → Option Str
  | some (.Call (.Name c _) [.Constant (.str _) _ _] [] _), none => some c
  | _, _ => none
/-- except RowError as e: f = _law_name_of(e) -/
def tryOf : List ExceptHandler → List Stmt → List Stmt → Option (Str × Str)
  | [.ExceptHandler (some (.Name r _)) (some e) [.Assign [.Name f _] (.Call (.Name g _) [.Name e2 _] [] _) _] _], [], [] => if r == "RowError" && g == "_law_name_of" && e2 == e then some (f, e) else none
  | _, _, _ => none
def trS (X : Tr) (sc : Sc) : Nat → Stmt → S
  | 0, _ => .bad
  | n + 1, s => match s with
    | .Assign ts e _ => (match ts with | [t] => trAsg X sc t e | _ => .bad)
    | .Expr e _ => (match e with | .Constant (.str _) _ _ => .pass | e => if isLc e then .bad else .expr (trE X 60 sc e))
    | .Return (some e) _ => .ret (trE X 60 sc e)
    | .Return none _ => .retn
    | .If t a b _ => .ife (trE X 60 sc t) (ssOf (a.map (trS X sc n))) (ssOf (b.map (trS X sc n)))
    | .For t it a b _ => if b.isEmpty && !isSet it then .for_ (trN X 60 sc t) (trI X 60 sc (isTup t) it) (ssOf (a.map (trS X sc n))) else .bad
    | .While t a b _ => if b.isEmpty then .while_ (trE X 60 sc t) (ssOf (a.map (trS X sc n))) else .bad
    | .Raise e c _ => (match raiseOf e c with
      | some x => if X.rz.contains x && globN sc x && x != "__debug__" then .raise_ x else .bad
      | none => .bad)
    | .Try body hs o fi _ => (match tryOf hs o fi with
      | some (f, e) => if X.tr && globN sc "RowError" && globN sc "_law_name_of" && sc.lookup e == some .local && sc.lookup f == some .local && e != "__debug__" && e != "__classdict__" then
          (match slotOf X.N f, slotOf X.N e with | some i, some j => .try_ (ssOf (body.map (trS X sc n))) i j | _, _ => .bad) else .bad
      | none => .bad)
    | .Pass _ => .pass
    | .Break _ => .brk
    | .Continue _ => .cnt
    | _ => .bad
def trSs (X : Tr) (sc : Sc) (ss : List Stmt) : Ss := ssOf (ss.map (trS X sc 60))
end VM

set_option Elab.async false
set_option maxRecDepth 100000
/-! how the machine's state lies in the model's -/
namespace VM
open PySem PySem.Spec PyProof.Rows L2

abbrev AP_ := Addr → Prop
/-- what stands behind the global names; the written part -/
structure Gb where
  f : Str → Option V
  K : PySem.W.Frag
def KL (K : PySem.W.Frag) (a : Addr) (xs : List V) : Prop := ∃ (o : Obj) (its : Array Value) (n : Nat), K.lookup a = some o ∧ o.cls = .type "list" ∧ o.dict = none ∧ o.data = .seq its n ∧ its.size ≤ sizeLine ∧ Vals xs its.toList
mutual
inductive RV (G : Gb) (A : AP_) (m : List Addr) (H : Hp) : V → D → Prop
  | non : RV G A m H .non .non
  | bl (b : Bool) : RV G A m H (.bl b) (.bl b)
  | int (i : Int) : RV G A m H (.int i) (.int i)
  | str (s : Str) : RV G A m H (.str s) (.str s)
  | ty (n : String) : RV G A m H (.ty n) (.ty n)
  | fn {x : Str} {v : V} : G.f x = some v → RV G A m H v (.fn x)
  | lst {a : Addr} {vs : List V} {ds : List D} : Rd H a (.lst vs) → ¬ A a → RVs G A m H vs ds → RV G A m H (.ref a) (.lst ds)
  | tup {a : Addr} {vs : List V} {ds : List D} : H a = some (.tup vs) → ¬ A a → RVs G A m H vs ds → RV G A m H (.ref a) (.tup ds)
  | cell {l : Nat} {a : Addr} : m[l]? = some a → RV G A m H (.ref a) (.cell l)
  | scr {a : Addr} {ns : List Int} : (Rd H a (.lst (ns.map .int)) ∧ ¬ A a ∨ KL G.K a (ns.map .int)) → RV G A m H (.ref a) (.scr ns)
inductive RVs (G : Gb) (A : AP_) (m : List Addr) (H : Hp) : List V → List D → Prop
  | nil : RVs G A m H [] []
  | cons {v : V} {d : D} {vs : List V} {ds : List D} : RV G A m H v d → RVs G A m H vs ds → RVs G A m H (v :: vs) (d :: ds)
end
/-- what data keeps away from: S and the cells -/
def av (S : AP_) (m : List Addr) : AP_ := fun a => S a ∨ a ∈ m
def avx (S : AP_) (m : List Addr) (p : Addr) : AP_ := fun a => av S m a ∨ a = p

mutual
def below (b : Nat) : D → Prop
  | .cell l => l < b
  | .lst xs => belowL b xs
  | .tup xs => belowL b xs
  | _ => True
def belowL (b : Nat) : List D → Prop
  | [] => True
  | x :: xs => below b x ∧ belowL b xs
end
def cBelow (b : Nat) : C → Prop
  | .lst xs => belowL b xs
  | .dct kvs => ∀ p ∈ kvs, below b p.2
  | .ins _ fs => ∀ p ∈ fs, below b p.2

def CR (G : Gb) (A : AP_) (m : List Addr) (H : Hp) (a : Addr) : C → Prop
  | .lst ds => ∃ vs, H a = some (.lst vs) ∧ RVs G A m H vs ds
  | .dct kvs => ∃ ks, H a = some (.dK ks) ∧ ks.map (·.1) = kvs.map (·.1) ∧ RVs G A m H (ks.map (·.2)) (kvs.map (·.2))
  | .ins c fs => ∃ Ca dx gs, G.f c = some (.ref Ca) ∧ H a = some (.ins Ca dx gs) ∧ gs.map (·.1) = fs.map (·.1) ∧ RVs G A m H (gs.map (·.2)) (fs.map (·.2))

structure Rep (G : Gb) (S : AP_) (B : Nat → Prop) (m : List Addr) (μ : Sto) (H : Hp) : Prop where
  len : m.length = μ.length
  nd : m.Nodup
  at_ : ∀ (l : Nat) (a : Addr) (c : C), m[l]? = some a → μ[l]? = some c → CR G (av S m) m H a c
  lev : ∀ x, B x → x ≤ μ.length ∧ ∀ (l : Nat) (c : C), l < x → μ[l]? = some c → cBelow x c
  trk : ∀ a, S a → (∃ o, H a = some o) ∧ a ∉ m

structure Evo (m : List Addr) (H : Hp) (m' : List Addr) (H' : Hp) : Prop where
  ext : ∃ e, m' = m ++ e
  keep : ∀ a o, H a = some o → a ∉ m → H' a = some o ∧ a ∉ m'
  dom : ∀ a o, H a = some o → ∃ o', H' a = some o'

theorem Evo.refl (m : List Addr) (H : Hp) : Evo m H m H := ⟨⟨[], by simp⟩, fun _ _ e n => ⟨e, n⟩, fun _ o e => ⟨o, e⟩⟩
theorem Evo.trans {m m1 m2 : List Addr} {H H1 H2 : Hp} (a : Evo m H m1 H1) (b : Evo m1 H1 m2 H2) : Evo m H m2 H2 := by
  refine ⟨?_, fun x o e n => ?_, fun x o e => ?_⟩
  · obtain ⟨e1, rfl⟩ := a.ext
    obtain ⟨e2, rfl⟩ := b.ext
    exact ⟨e1 ++ e2, by simp⟩
  · obtain ⟨e1, n1⟩ := a.keep x o e n
    exact b.keep x o e1 n1
  · obtain ⟨o1, e1⟩ := a.dom x o e
    exact b.dom x o1 e1
theorem Evo.free {m m' : List Addr} {H H' : Hp} (e : Evo m H m' H') {a : Addr} (h : H' a = none) : H a = none := by
  cases q : H a with
  | none => rfl
  | some o =>
    obtain ⟨o', e'⟩ := e.dom a o q
    rw [h] at e'; cases e'
theorem Evo.at {m m' : List Addr} {H H' : Hp} (e : Evo m H m' H') {l : Nat} {a : Addr} (h : m[l]? = some a) : m'[l]? = some a := by
  obtain ⟨x, rfl⟩ := e.ext
  have hl : l < m.length := (List.getElem?_eq_some_iff.mp h).1
  rw [List.getElem?_append_left hl]; exact h

section
variable {G : Gb} {S : AP_} {B : Nat → Prop} {m m' : List Addr} {μ : Sto} {H H' : Hp}
mutual
theorem RV.imp {A A' : AP_} (hm : ∀ (l : Nat) (a : Addr), m[l]? = some a → m'[l]? = some a) (hk : ∀ a o, H a = some o → ¬ A a → H' a = some o ∧ ¬ A' a) :
    ∀ {v : V} {d : D}, RV G A m H v d → RV G A' m' H' v d
  | _, _, .non => .non
  | _, _, .bl b => .bl b
  | _, _, .int i => .int i
  | _, _, .str s => .str s
  | _, _, .ty n => .ty n
  | _, _, .fn g => .fn g
  | _, _, .lst (a := a) r n t => by
    rcases r with r | ⟨o, r⟩
    · exact .lst (.inl (hk _ _ r n).1) (hk _ _ r n).2 (RVs.imp hm hk t)
    · exact .lst (.inr ⟨o, (hk _ _ r n).1⟩) (hk _ _ r n).2 (RVs.imp hm hk t)
  | _, _, .tup r n t => .tup (hk _ _ r n).1 (hk _ _ r n).2 (RVs.imp hm hk t)
  | _, _, .cell e => .cell (hm _ _ e)
  | _, _, .scr h => by
    rcases h with ⟨r | ⟨o, r⟩, n⟩ | h
    · exact .scr (.inl ⟨.inl (hk _ _ r n).1, (hk _ _ r n).2⟩)
    · exact .scr (.inl ⟨.inr ⟨o, (hk _ _ r n).1⟩, (hk _ _ r n).2⟩)
    · exact .scr (.inr h)
theorem RVs.imp {A A' : AP_} (hm : ∀ (l : Nat) (a : Addr), m[l]? = some a → m'[l]? = some a) (hk : ∀ a o, H a = some o → ¬ A a → H' a = some o ∧ ¬ A' a) :
    ∀ {vs : List V} {ds : List D}, RVs G A m H vs ds → RVs G A' m' H' vs ds
  | _, _, .nil => .nil
  | _, _, .cons r t => .cons (RV.imp hm hk r) (RVs.imp hm hk t)
end
theorem RV.evo {v : V} {d : D} (e : Evo m H m' H') (r : RV G (av S m) m H v d) : RV G (av S m') m' H' v d :=
  r.imp (fun _ _ => e.at) fun a o h n => ⟨(e.keep a o h fun z => n (.inr z)).1, fun z => z.elim (fun z => n (.inl z)) (e.keep a o h fun z => n (.inr z)).2⟩
theorem RVs.evo {vs : List V} {ds : List D} (e : Evo m H m' H') (r : RVs G (av S m) m H vs ds) : RVs G (av S m') m' H' vs ds :=
  r.imp (fun _ _ => e.at) fun a o h n => ⟨(e.keep a o h fun z => n (.inr z)).1, fun z => z.elim (fun z => n (.inl z)) (e.keep a o h fun z => n (.inr z)).2⟩
theorem RVs.evox {vs : List V} {ds : List D} {p : Addr} (e : Evo m H m' H') (r : RVs G (avx S m p) m H vs ds) : RVs G (avx S m' p) m' H' vs ds :=
  r.imp (fun _ _ => e.at) fun a o h n => ⟨(e.keep a o h fun z => n (.inl (.inr z))).1, fun z => z.elim (fun z => z.elim (fun z => n (.inl (.inl z))) (e.keep a o h fun z => n (.inl (.inr z))).2) fun z => n (.inr z)⟩
theorem RVs.length {A : AP_} : ∀ {vs : List V} {ds : List D}, RVs G A m H vs ds → vs.length = ds.length
  | _, _, .nil => rfl
  | _, _, .cons _ t => by simp [RVs.length t]
theorem RVs.get {A : AP_} : ∀ {vs : List V} {ds : List D} {i : Nat} {d : D}, RVs G A m H vs ds → ds[i]? = some d → ∃ v, vs[i]? = some v ∧ RV G A m H v d
  | _, _, _, _, .nil, e => by simp at e
  | _, _, 0, _, .cons r _, e => by simp at e; subst e; exact ⟨_, rfl, r⟩
  | _, _, i + 1, _, .cons _ t, e => by
    obtain ⟨v, h1, h2⟩ := RVs.get (i := i) t (by simpa using e)
    exact ⟨v, by simpa using h1, h2⟩
theorem RVs.append {A : AP_} : ∀ {vs ws : List V} {ds es : List D}, RVs G A m H vs ds → RVs G A m H ws es → RVs G A m H (vs ++ ws) (ds ++ es)
  | _, _, _, _, .nil, s => s
  | _, _, _, _, .cons r t, s => .cons r (t.append s)
theorem RVs.set {A : AP_} {v : V} {d : D} (r : RV G A m H v d) : ∀ {vs : List V} {ds : List D} (i : Nat), RVs G A m H vs ds → RVs G A m H (vs.set i v) (ds.set i d)
  | _, _, _, .nil => .nil
  | _, _, 0, .cons _ t => .cons r t
  | _, _, i + 1, .cons q t => .cons q (RVs.set r i t)
theorem RVs.take {A : AP_} : ∀ {vs : List V} {ds : List D} (n : Nat), RVs G A m H vs ds → RVs G A m H (vs.take n) (ds.take n)
  | _, _, 0, _ => by simpa using RVs.nil
  | _, _, _ + 1, .nil => .nil
  | _, _, n + 1, .cons r t => .cons r (RVs.take n t)
theorem RVs.drop {A : AP_} : ∀ {vs : List V} {ds : List D} (n : Nat), RVs G A m H vs ds → RVs G A m H (vs.drop n) (ds.drop n)
  | _, _, 0, r => r
  | _, _, _ + 1, .nil => .nil
  | _, _, n + 1, .cons _ t => RVs.drop n t
theorem RVs.dropLast {A : AP_} {vs : List V} {ds : List D} (r : RVs G A m H vs ds) : RVs G A m H vs.dropLast ds.dropLast := by
  rw [List.dropLast_eq_take, List.dropLast_eq_take, r.length]; exact r.take _
theorem RVs.eraseIdx {A : AP_} : ∀ {vs : List V} {ds : List D} (i : Nat), RVs G A m H vs ds → RVs G A m H (vs.eraseIdx i) (ds.eraseIdx i)
  | _, _, _, .nil => .nil
  | _, _, 0, .cons _ t => t
  | _, _, i + 1, .cons q t => .cons q (RVs.eraseIdx i t)
theorem RVs.rep {A : AP_} {vs : List V} {ds : List D} (r : RVs G A m H vs ds) : ∀ k : Nat, RVs G A m H (List.replicate k vs).flatten (List.replicate k ds).flatten
  | 0 => .nil
  | k + 1 => by rw [List.replicate_succ, List.replicate_succ, List.flatten_cons, List.flatten_cons]; exact r.append (RVs.rep r k)

theorem RVs.reverse {A : AP_} : ∀ {vs : List V} {ds : List D}, RVs G A m H vs ds → RVs G A m H vs.reverse ds.reverse
  | _, _, .nil => .nil
  | _, _, .cons r t => by rw [List.reverse_cons, List.reverse_cons]; exact (RVs.reverse t).append (.cons r .nil)
theorem av_new (R : Rep G S B m μ H) {p : Addr} (hp : H p = none) : ¬ av S m p := by
  rintro (z | z)
  · obtain ⟨⟨o, e⟩, _⟩ := R.trk p z
    rw [hp] at e; cases e
  · obtain ⟨l, hl, e⟩ := List.getElem_of_mem z
    have h1 : m[l]? = some p := by rw [List.getElem?_eq_getElem hl, e]
    have hl2 : l < μ.length := by rw [← R.len]; exact hl
    have h2 : μ[l]? = some μ[l] := List.getElem?_eq_getElem hl2
    have c := R.at_ l p _ h1 h2
    cases q : μ[l] with
    | lst ds => rw [q] at c; obtain ⟨vs, e, _⟩ := c; rw [hp] at e; cases e
    | dct ds => rw [q] at c; obtain ⟨vs, e, _⟩ := c; rw [hp] at e; cases e
    | ins cc fs => rw [q] at c; obtain ⟨_, _, _, _, e, _⟩ := c; rw [hp] at e; cases e
theorem CR.imp {A A' : AP_} {a : Addr} {c : C} (hm : ∀ (l : Nat) (a : Addr), m[l]? = some a → m'[l]? = some a) (hk : ∀ a o, H a = some o → ¬ A a → H' a = some o ∧ ¬ A' a)
    (ha : ∀ o, H a = some o → H' a = some o) (r : CR G A m H a c) : CR G A' m' H' a c := by
  cases c with
  | lst ds => obtain ⟨vs, e, t⟩ := r; exact ⟨vs, ha _ e, t.imp hm hk⟩
  | dct kvs => obtain ⟨ks, e, k, t⟩ := r; exact ⟨ks, ha _ e, k, t.imp hm hk⟩
  | ins c fs => obtain ⟨x, y, z, g, e, k, t⟩ := r; exact ⟨x, y, z, g, ha _ e, k, t.imp hm hk⟩
/-- the heap grows alone -/
theorem Rep.grow (R : Rep G S B m μ H) (k : Same H H') : Rep G S B m μ H' :=
  ⟨R.len, R.nd, fun l a c h1 h2 => (R.at_ l a c h1 h2).imp (fun _ _ e => e) (fun _ _ e n => ⟨k _ _ e, n⟩) fun _ e => k _ _ e, R.lev, fun a z => ⟨let ⟨o, e⟩ := (R.trk a z).1; ⟨o, k _ _ e⟩, (R.trk a z).2⟩⟩
theorem Evo.grow (k : Same H H') : Evo m H m H' := ⟨⟨[], by simp⟩, fun _ _ e n => ⟨k _ _ e, n⟩, fun _ o e => ⟨o, k _ _ e⟩⟩
theorem same_new {p : Addr} {o : HO} (hp : H p = none) : Same H (upd H p o) := fun _ _ e => by rw [upd_ne (ne_of_none e hp)]; exact e
theorem Rep.mem_trk (R : Rep G S B m μ H) {l : Nat} {a : Addr} (h : m[l]? = some a) : ∃ o, H a = some o := by
  cases q : H a with
  | none => exact absurd (Or.inr (List.mem_of_getElem? h)) (av_new R q)
  | some o => exact ⟨o, rfl⟩
theorem nodup_at (nd : m.Nodup) {l k : Nat} {a : Addr} (h1 : m[l]? = some a) (h2 : m[k]? = some a) : l = k := by
  obtain ⟨a1, e1⟩ := List.getElem?_eq_some_iff.mp h1
  obtain ⟨a2, e2⟩ := List.getElem?_eq_some_iff.mp h2
  exact (List.getElem_inj nd).mp (e1.trans e2.symm)
/-- a cell is written -/
theorem Evo.put {a : Addr} {o : HO} (ha : a ∈ m) : Evo m H m (upd H a o) := by
  refine ⟨⟨[], by simp⟩, fun x u e n => ⟨?_, n⟩, fun x u e => ?_⟩
  · rw [upd_ne fun z => n (by rw [z]; exact ha)]; exact e
  · by_cases h : x = a
    · subst h; exact ⟨o, upd_same⟩
    · exact ⟨u, by rw [upd_ne h]; exact e⟩
theorem Rep.put (R : Rep G S B m μ H) {l : Nat} {a : Addr} {o : HO} {c : C} (h : m[l]? = some a) (hc : CR G (av S m) m (upd H a o) a c) (hb : ∀ x, B x → l < x → cBelow x c) :
    Rep G S B m (μ.set l c) (upd H a o) := by
  have ha := List.mem_of_getElem? h
  have E : Evo m H m (upd H a o) := Evo.put ha
  have hl : l < μ.length := by rw [← R.len]; exact (List.getElem?_eq_some_iff.mp h).1
  refine ⟨by rw [List.length_set]; exact R.len, R.nd, fun k b u h1 h2 => ?_, fun x hx => ⟨by rw [List.length_set]; exact (R.lev x hx).1, fun k u hk h2 => ?_⟩, fun x z => ⟨let ⟨u, e⟩ := (R.trk x z).1; E.dom _ _ e, (R.trk x z).2⟩⟩
  · by_cases hk : k = l
    · subst hk
      rw [h] at h1; cases h1
      rw [List.getElem?_set_self hl] at h2; cases h2
      exact hc
    · rw [List.getElem?_set_ne (Ne.symm hk)] at h2
      have nb : b ≠ a := fun z => hk (nodup_at R.nd (z ▸ h1) h)
      exact (R.at_ k b u h1 h2).imp (fun _ _ e => e) (fun x w e n => ⟨(E.keep x w e fun z => n (.inr z)).1, n⟩) fun w e => by rw [upd_ne nb]; exact e
  · by_cases hkl : k = l
    · subst hkl
      rw [List.getElem?_set_self hl] at h2; cases h2
      exact hb x hx hk
    · rw [List.getElem?_set_ne (Ne.symm hkl)] at h2
      exact (R.lev x hx).2 k u hk h2
theorem belowL_iff {b : Nat} : ∀ {xs : List D}, belowL b xs ↔ ∀ x ∈ xs, below b x
  | [] => by simp [belowL]
  | x :: xs => by simp [belowL, belowL_iff (xs := xs)]
theorem below_noRef {b : Nat} : ∀ (n : Nat) (d : D), noRef n d = true → below b d
  | 0, _, h => by simp [noRef] at h
  | n + 1, d, h => by
    cases d with
    | lst xs =>
      have h' : ∀ x ∈ xs, noRef n x = true := by simpa [noRef] using h
      unfold below
      exact belowL_iff.mpr fun x hx => below_noRef n x (h' x hx)
    | tup xs =>
      have h' : ∀ x ∈ xs, noRef n x = true := by simpa [noRef] using h
      unfold below
      exact belowL_iff.mpr fun x hx => below_noRef n x (h' x hx)
    | cell l => simp [noRef] at h
    | _ => unfold below; trivial
/-- a new list becomes a cell -/
theorem Rep.thaw (R : Rep G S B m μ H) {a : Addr} {vs : List V} {ds : List D} (ha : H a = some (.lst vs)) (hn : ¬ av S m a) (t : RVs G (avx S m a) m H vs ds)
    (hk : ∀ (l : Nat) (b : Addr) (c : C), m[l]? = some b → μ[l]? = some c → CR G (avx S m a) m H b c) : Rep G S B (m ++ [a]) (μ ++ [.lst ds]) H := by
  have hm : ∀ (l : Nat) (b : Addr), m[l]? = some b → (m ++ [a])[l]? = some b := fun l b e => by
    rw [List.getElem?_append_left (List.getElem?_eq_some_iff.mp e).1]; exact e
  have hA : ∀ (x : Addr) (o : HO), H x = some o → ¬ avx S m a x → H x = some o ∧ ¬ av S (m ++ [a]) x := fun x o e n => ⟨e, fun z => by
    rcases z with z | z
    · exact n (.inl (.inl z))
    · rcases List.mem_append.mp z with z | z
      · exact n (.inl (.inr z))
      · exact n (.inr (by simpa using z))⟩
  refine ⟨by simp [R.len], ?_, fun l b c h1 h2 => ?_, fun x hx => ⟨by have := (R.lev x hx).1; simp; omega, fun l c hl h2 => ?_⟩, fun x z => ⟨(R.trk x z).1, fun w => ?_⟩⟩
  · rw [List.nodup_append]
    exact ⟨R.nd, by simp, fun x hx y hy => by
      have : y = a := by simpa using hy
      subst this
      exact fun z => hn (.inr (z ▸ hx))⟩
  · by_cases hl : l < m.length
    · rw [List.getElem?_append_left hl] at h1
      rw [List.getElem?_append_left (by rw [← R.len]; exact hl)] at h2
      exact (hk l b c h1 h2).imp hm hA fun _ e => e
    · have hl2 : l = m.length := by
        have := (List.getElem?_eq_some_iff.mp h1).1
        simp at this; omega
      subst hl2
      rw [List.getElem?_append_right (Nat.le_refl _)] at h1
      rw [R.len, List.getElem?_append_right (Nat.le_refl _)] at h2
      simp at h1 h2
      subst h1; subst h2
      exact ⟨vs, ha, t.imp hm hA⟩
  · have hxl := (R.lev x hx).1
    rw [List.getElem?_append_left (by omega)] at h2
    exact (R.lev x hx).2 l c hl h2
  · rcases List.mem_append.mp w with w | w
    · exact (R.trk x z).2 w
    · have : x = a := by simpa using w
      subst this
      exact hn (.inl z)
end
end VM

set_option Elab.async false
set_option maxRecDepth 100000
set_option linter.unusedVariables false
/-! what a run asks; the single operations -/
namespace VM
open PySem PySem.Spec PyProof.Rows L2

mutual
/-- a thing, f levels of new lists deep; L: where these stand; what lies deeper keeps away from A -/
inductive OwnV (G : Gb) (A : AP_) (m : List Addr) (H : Hp) : Nat → List Addr → V → D → Prop
  | z {v : V} {d : D} : RV G A m H v d → OwnV G A m H 0 [] v d
  | flat {k : Nat} {v : V} {d : D} : flat d = true → RV G A m H v d → OwnV G A m H (k + 1) [] v d
  | lst {k : Nat} {a : Addr} {vs : List V} {ds : List D} {L : List Addr} : H a = some (.lst vs) → OwnVs G A m H k L vs ds → OwnV G A m H (k + 1) (a :: L) (.ref a) (.lst ds)
  | tup {k : Nat} {a : Addr} {vs : List V} {ds : List D} {L : List Addr} : H a = some (.tup vs) → ¬ A a → OwnVs G A m H (k + 1) L vs ds → OwnV G A m H (k + 1) L (.ref a) (.tup ds)
inductive OwnVs (G : Gb) (A : AP_) (m : List Addr) (H : Hp) : Nat → List Addr → List V → List D → Prop
  | nil {k : Nat} : OwnVs G A m H k [] [] []
  | cons {k : Nat} {L1 L2 : List Addr} {v : V} {d : D} {vs : List V} {ds : List D} : OwnV G A m H k L1 v d → OwnVs G A m H k L2 vs ds → OwnVs G A m H k (L1 ++ L2) (v :: vs) (d :: ds)
end
/-- what keeps away from the new lists, too -/
def avL (S : AP_) (m : List Addr) (L : List Addr) : AP_ := fun a => av S m a ∨ a ∈ L
/-- f levels of new lists deep: nothing else holds these -/
structure NWP (f : Nat) (G : Gb) (S : AP_) (H0 : Hp) (m : List Addr) (μ : Sto) (H : Hp) (v : V) (d : D) : Prop where
  ex : ∃ L : List Addr, L.Nodup ∧ (∀ a ∈ L, H0 a = none ∧ ¬ av S m a) ∧ OwnV G (avL S m L) m H f L v d ∧ ∀ (l : Nat) (b : Addr) (c : C), m[l]? = some b → μ[l]? = some c → CR G (avL S m L) m H b c
section
variable {G : Gb} {m m' : List Addr} {H H' : Hp}
mutual
theorem OwnV.imp {A A' : AP_} (hm : ∀ (l : Nat) (a : Addr), m[l]? = some a → m'[l]? = some a) (hk : ∀ a o, H a = some o → ¬ A a → H' a = some o ∧ ¬ A' a) : ∀ {f : Nat} {L : List Addr} {v : V} {d : D}, (∀ a o, a ∈ L → H a = some o → H' a = some o) → OwnV G A m H f L v d → OwnV G A' m' H' f L v d
  | _, _, _, _, _, .z r => .z (r.imp hm hk)
  | _, _, _, _, _, .flat e r => .flat e (r.imp hm hk)
  | _, _, _, _, hL, .lst e t => .lst (hL _ _ List.mem_cons_self e) (OwnVs.imp hm hk (fun a o h => hL a o (List.mem_cons_of_mem _ h)) t)
  | _, _, _, _, hL, .tup e n t => .tup (hk _ _ e n).1 (hk _ _ e n).2 (OwnVs.imp hm hk hL t)
theorem OwnVs.imp {A A' : AP_} (hm : ∀ (l : Nat) (a : Addr), m[l]? = some a → m'[l]? = some a) (hk : ∀ a o, H a = some o → ¬ A a → H' a = some o ∧ ¬ A' a) : ∀ {f : Nat} {L : List Addr} {vs : List V} {ds : List D}, (∀ a o, a ∈ L → H a = some o → H' a = some o) → OwnVs G A m H f L vs ds → OwnVs G A' m' H' f L vs ds
  | _, _, _, _, _, .nil => .nil
  | _, _, _, _, hL, .cons r t => .cons (OwnV.imp hm hk (fun a o h => hL a o (List.mem_append_left _ h)) r) (OwnVs.imp hm hk (fun a o h => hL a o (List.mem_append_right _ h)) t)
end
mutual
/-- as data -/
theorem OwnV.rv {A A' : AP_} (hA : ∀ a, ¬ A a → ¬ A' a) : ∀ {f : Nat} {L : List Addr} {v : V} {d : D}, (∀ a ∈ L, ¬ A' a) → OwnV G A m H f L v d → RV G A' m H v d
  | _, _, _, _, _, .z r => r.imp (fun _ _ e => e) fun a o e n => ⟨e, hA a n⟩
  | _, _, _, _, _, .flat _ r => r.imp (fun _ _ e => e) fun a o e n => ⟨e, hA a n⟩
  | _, _, _, _, hL, .lst e t => .lst (.inl e) (hL _ List.mem_cons_self) (OwnVs.rv hA (fun a h => hL a (List.mem_cons_of_mem _ h)) t)
  | _, _, _, _, hL, .tup e n t => .tup e (hA _ n) (OwnVs.rv hA hL t)
theorem OwnVs.rv {A A' : AP_} (hA : ∀ a, ¬ A a → ¬ A' a) : ∀ {f : Nat} {L : List Addr} {vs : List V} {ds : List D}, (∀ a ∈ L, ¬ A' a) → OwnVs G A m H f L vs ds → RVs G A' m H vs ds
  | _, _, _, _, _, .nil => .nil
  | _, _, _, _, hL, .cons r t => .cons (OwnV.rv hA (fun a h => hL a (List.mem_append_left _ h)) r) (OwnVs.rv hA (fun a h => hL a (List.mem_append_right _ h)) t)
end
mutual
/-- fewer levels -/
theorem OwnV.le {A : AP_} : ∀ {k f : Nat} {L : List Addr} {v : V} {d : D}, k ≤ f → L.Nodup → OwnV G A m H f L v d → ∃ L' : List Addr, L'.Sublist L ∧ ∀ A' : AP_, (∀ a, ¬ A a → ¬ A' a) → (∀ a ∈ L, a ∉ L' → ¬ A' a) → OwnV G A' m H k L' v d
  | 0, _, L, _, _, _, _, o => ⟨[], List.nil_sublist _, fun A' h1 h2 => .z (o.rv h1 fun a h => h2 a h (by simp))⟩
  | k + 1, 0, _, _, _, h, _, _ => absurd h (by omega)
  | k + 1, f + 1, _, _, _, _, _, .flat e r => ⟨[], List.Sublist.refl _, fun A' h1 _ => .flat e (r.imp (fun _ _ e => e) fun a o e n => ⟨e, h1 a n⟩)⟩
  | k + 1, f + 1, _, _, _, h, nd, .lst e t => by
    have nd := List.nodup_cons.mp nd
    obtain ⟨L', s, g⟩ := OwnVs.le (Nat.le_of_succ_le_succ h) nd.2 t
    exact ⟨_ :: L', s.cons_cons _, fun A' h1 h2 => .lst e (g A' h1 fun x hx n => h2 x (List.mem_cons_of_mem _ hx) fun z => (List.mem_cons.mp z).elim (fun z => nd.1 (z ▸ hx)) n)⟩
  | k + 1, f + 1, _, _, _, h, nd, .tup e n t => by
    obtain ⟨L', s, g⟩ := OwnVs.le h nd t
    exact ⟨L', s, fun A' h1 h2 => .tup e (h1 _ n) (g A' h1 h2)⟩
theorem OwnVs.le {A : AP_} : ∀ {k f : Nat} {L : List Addr} {vs : List V} {ds : List D}, k ≤ f → L.Nodup → OwnVs G A m H f L vs ds → ∃ L' : List Addr, L'.Sublist L ∧ ∀ A' : AP_, (∀ a, ¬ A a → ¬ A' a) → (∀ a ∈ L, a ∉ L' → ¬ A' a) → OwnVs G A' m H k L' vs ds
  | _, _, _, _, _, _, _, .nil => ⟨[], List.Sublist.refl _, fun _ _ _ => .nil⟩
  | _, _, _, _, _, h, nd, .cons r t => by
    have nd := List.nodup_append.mp nd
    obtain ⟨M1, s1, g1⟩ := OwnV.le h nd.1 r
    obtain ⟨M2, s2, g2⟩ := OwnVs.le h nd.2.1 t
    refine ⟨M1 ++ M2, s1.append s2, fun A' h1 h2 => .cons (g1 A' h1 fun a ha n => h2 a (List.mem_append_left _ ha) fun z => (List.mem_append.mp z).elim n fun z => nd.2.2 a ha a (s2.subset z) rfl) (g2 A' h1 fun a ha n => h2 a (List.mem_append_right _ ha) fun z => (List.mem_append.mp z).elim (fun z => nd.2.2 a (s1.subset z) a ha rfl) n)⟩
end
mutual
theorem OwnV.has {A : AP_} : ∀ {f : Nat} {L : List Addr} {v : V} {d : D}, OwnV G A m H f L v d → ∀ a ∈ L, ∃ o, H a = some o
  | _, _, _, _, .z _, _, h => by cases h
  | _, _, _, _, .flat _ _, _, h => by cases h
  | _, _, _, _, .lst e t, a, h => by
    rcases List.mem_cons.mp h with rfl | h
    · exact ⟨_, e⟩
    · exact OwnVs.has t a h
  | _, _, _, _, .tup _ _ t, a, h => OwnVs.has t a h
theorem OwnVs.has {A : AP_} : ∀ {f : Nat} {L : List Addr} {vs : List V} {ds : List D}, OwnVs G A m H f L vs ds → ∀ a ∈ L, ∃ o, H a = some o
  | _, _, _, _, .nil, _, h => by cases h
  | _, _, _, _, .cons r t, a, h => (List.mem_append.mp h).elim (OwnV.has r a) (OwnVs.has t a)
end
theorem OwnVs.length0 {A : AP_} : ∀ {L : List Addr} {vs : List V} {ds : List D}, OwnVs G A m H 0 L vs ds → L = []
  | _, _, _, .nil => rfl
  | _, _, _, .cons (.z _) t => by rw [OwnVs.length0 t]; rfl
theorem nodup_map {α β : Type} {f : α → β} : ∀ {l : List α}, (∀ x ∈ l, ∀ y ∈ l, f x = f y → x = y) → l.Nodup → (l.map f).Nodup
  | [], _, _ => by simp
  | a :: l, h, nd => by
    have nd := List.nodup_cons.mp nd
    rw [List.map_cons, List.nodup_cons]
    refine ⟨fun z => ?_, nodup_map (fun x hx y hy => h x (List.mem_cons_of_mem _ hx) y (List.mem_cons_of_mem _ hy)) nd.2⟩
    obtain ⟨b, hb, e⟩ := List.mem_map.mp z
    exact nd.1 (h b (List.mem_cons_of_mem _ hb) a List.mem_cons_self e ▸ hb)
theorem noRef_up : ∀ (k : Nat) (d : D), noRef k d = true → noRef (k + 1) d = true
  | 0, _, h => by cases h
  | k + 1, d, h => by
    cases d with
    | lst xs =>
      have h' : ∀ x ∈ xs, noRef k x = true := by simpa [noRef] using h
      show xs.all (noRef (k + 1)) = true
      exact List.all_eq_true.mpr fun x hx => noRef_up k x (h' x hx)
    | tup xs =>
      have h' : ∀ x ∈ xs, noRef k x = true := by simpa [noRef] using h
      show xs.all (noRef (k + 1)) = true
      exact List.all_eq_true.mpr fun x hx => noRef_up k x (h' x hx)
    | cell l => cases h
    | _ => rfl
theorem OwnVs.zero {A : AP_} : ∀ {vs : List V} {ds : List D}, RVs G A m H vs ds → OwnVs G A m H 0 [] vs ds
  | _, _, .nil => .nil
  | _, _, .cons r t => .cons (L1 := []) (L2 := []) (.z r) (OwnVs.zero t)
theorem OwnVs.snoc {A : AP_} {k : Nat} {L1 : List Addr} {v : V} {d : D} (r : OwnV G A m H k L1 v d) : ∀ {L : List Addr} {vs : List V} {ds : List D}, OwnVs G A m H k L vs ds → OwnVs G A m H k (L ++ L1) (vs ++ [v]) (ds ++ [d])
  | _, _, _, .nil => by simpa using OwnVs.cons r .nil
  | _, _, _, .cons q t => by simpa [List.append_assoc] using OwnVs.cons q (OwnVs.snoc r t)
end
def ExcR (G : Gb) (x : Exc) (cls : Value) (dd : Option Addr) (H : Hp) : Prop :=
  ∃ C, cls = .ref C ∧ G.f x.cls = some (.ref C) ∧ match x.val with
    | none => dd = none
    | some d => ∃ a i, d = .int i ∧ dd = some a ∧ H a = some (.xd [("number", .int i)])

def PostE (G : Gb) (S : AP_) (B : Nat → Prop) (W : L2.WX) (m : List Addr) (H : Hp) (σ : L2.St) (Q : V → Hp → Prop) : R (D × Nat) → Prop
  | .ok d μ' => ∀ v H' m', Evo m H m' H' → Rep G S B m' μ' H' → RV G (av S m') m' H' v d.1 → NWP d.2 G S H m' μ' H' v d.1 → Q v H'
  | .err x μ' => ∀ cls dd H' m', Evo m H m' H' → Rep G S B m' μ' H' → ExcR G x cls dd H' → W cls dd σ H'
  | .bad => False

section
variable {G : Gb} {S : AP_} {B : Nat → Prop} {W : L2.WX} {m m1 m' : List Addr} {μ μ1 : Sto} {H H1 H' : Hp} {σ : L2.St} {Q Q1 : V → Hp → Prop}
theorem avL_nil {a : Addr} : ¬ av S m a → ¬ avL S m [] a := fun h z => z.elim h fun z => by cases z
theorem NWP.zero (R : Rep G S B m μ H) {H0 : Hp} {v : V} {d : D} (r : RV G (av S m) m H v d) : NWP 0 G S H0 m μ H v d :=
  ⟨[], List.nodup_nil, (fun _ h => by cases h), .z (r.imp (fun _ _ e => e) fun a o e n => ⟨e, avL_nil n⟩), fun l b c h1 h2 => (R.at_ l b c h1 h2).imp (fun _ _ e => e) (fun a o e n => ⟨e, avL_nil n⟩) fun _ e => e⟩
theorem NWP.back {f : Nat} {μ : Sto} {v : V} {d : D} (e : Evo m H m1 H1) (n : NWP f G S H1 m' μ H' v d) : NWP f G S H m' μ H' v d := by
  obtain ⟨L, h1, h2, h3⟩ := n
  exact ⟨L, h1, fun a h => ⟨e.free (h2 a h).1, (h2 a h).2⟩, h3⟩
theorem NWP.le {k f : Nat} {μ : Sto} {H0 : Hp} {v : V} {d : D} (n : NWP f G S H0 m μ H v d) (h : k ≤ f) : ∃ L : List Addr, (L.Nodup ∧ ∀ a ∈ L, H0 a = none ∧ ¬ av S m a) ∧ OwnV G (avL S m L) m H k L v d ∧ ∀ (l : Nat) (b : Addr) (c : C), m[l]? = some b → μ[l]? = some c → CR G (avL S m L) m H b c := by
  obtain ⟨L, nd, hL, own, cr⟩ := n
  obtain ⟨L', s, g⟩ := own.le h nd
  have hA : ∀ a, ¬ avL S m L a → ¬ avL S m L' a := fun a n z => n (z.elim .inl fun z => .inr (s.subset z))
  exact ⟨L', ⟨nd.sublist s, fun a ha => hL a (s.subset ha)⟩, g _ hA fun a ha n z => z.elim (hL a ha).2 n, fun l b c h1 h2 => (cr l b c h1 h2).imp (fun _ _ e => e) (fun a o e n => ⟨e, hA a n⟩) fun _ e => e⟩
theorem PostE.shift {r : R (D × Nat)} (e : Evo m H m1 H1) (h : PostE G S B W m H σ Q r) : PostE G S B W m1 H1 σ Q r := by
  cases r with
  | ok d μ' => exact fun v H' m' e1 R r n => h v H' m' (e.trans e1) R r (n.back e)
  | err x μ' => exact fun cls dd H' m' e1 R r => h cls dd H' m' (e.trans e1) R r
  | bad => exact h
theorem PostE.bind {r : R (D × Nat)} {f : D × Nat → Sto → R (D × Nat)} (h : PostE G S B W m H σ Q (r.bind f))
    (k : ∀ (d : D × Nat) (μ1 : Sto) (v : V) (H1 : Hp) (m1 : List Addr), r = .ok d μ1 → Evo m H m1 H1 → Rep G S B m1 μ1 H1 → RV G (av S m1) m1 H1 v d.1 → NWP d.2 G S H m1 μ1 H1 v d.1 → PostE G S B W m1 H1 σ Q (f d μ1) → Q1 v H1) :
    PostE G S B W m H σ Q1 r := by
  cases r with
  | ok d μ1 => exact fun v H1 m1 e R r n => k d μ1 v H1 m1 rfl e R r n (PostE.shift e h)
  | err x μ' => exact h
  | bad => exact h
/-- the heap grew by a new thing -/
theorem NWP.new (R : Rep G S B m μ H) {p : Addr} {vs : List V} {ds : List D} (hp : H p = none) (t : RVs G (av S m) m H vs ds) : NWP 1 G S H m μ (upd H p (.lst vs)) (.ref p) (.lst ds) := by
  have kk : ∀ (x : Addr) (o : HO), H x = some o → ¬ av S m x → upd H p (.lst vs) x = some o ∧ ¬ avL S m [p] x := fun x o e n => ⟨same_new hp _ _ e, fun z => z.elim n fun z => ne_of_none e hp (by simpa using z)⟩
  refine ⟨[p], by simp, fun a h => ?_, .lst upd_same (.zero (t.imp (fun _ _ e => e) kk)), fun l b c h1 h2 => ?_⟩
  · have : a = p := by simpa using h
    subst this
    exact ⟨hp, av_new R hp⟩
  · exact (R.at_ l b c h1 h2).imp (fun _ _ e => e) kk fun o e => same_new hp _ _ e
theorem PostE.newL {p : Addr} {vs : List V} {ds : List D} (h : PostE G S B W m H σ Q (.ok (.lst ds, 1) μ)) (R : Rep G S B m μ H) (t : RVs G (av S m) m H vs ds) (hp : H p = none) :
    Q (.ref p) (upd H p (.lst vs)) := by
  have k : Same H (upd H p (.lst vs)) := same_new hp
  exact h _ _ m (Evo.grow k) (R.grow k) (.lst (.inl upd_same) (av_new R hp) (t.evo (Evo.grow k))) (NWP.new R hp t)
theorem PostE.newT {p : Addr} {vs : List V} {ds : List D} (h : PostE G S B W m H σ Q (.ok (.tup ds, 0) μ)) (R : Rep G S B m μ H) (t : RVs G (av S m) m H vs ds) (hp : H p = none) :
    Q (.ref p) (upd H p (.tup vs)) := by
  have k : Same H (upd H p (.tup vs)) := same_new hp
  have r : RV G (av S m) m (upd H p (.tup vs)) (.ref p) (.tup ds) := .tup upd_same (av_new R hp) (t.evo (Evo.grow k))
  exact h _ _ m (Evo.grow k) (R.grow k) r (.zero (R.grow k) r)
theorem PostE.val {v : V} {d : D} (h : PostE G S B W m H σ Q (.ok (d, 0) μ)) (R : Rep G S B m μ H) (r : RV G (av S m) m H v d) : Q v H :=
  h v H m (Evo.refl m H) R r (.zero R r)
theorem PostE.shv {v : V} {o : Option D} (h : PostE G S B W m H σ Q (sh o μ)) (R : Rep G S B m μ H) (r : ∀ d, o = some d → RV G (av S m) m H v d) : Q v H := by
  cases o with
  | none => exact h.elim
  | some d => exact PostE.val h R (r d rfl)
/-- a list to be read -/
theorem items_at (R : Rep G S B m μ H) {v : V} {d : D} {xs : List D} (r : RV G (av S m) m H v d) (e : itemsL μ d = some xs) :
    ∃ a vs, v = .ref a ∧ Rd H a (.lst vs) ∧ RVs G (av S m) m H vs xs := by
  cases r with
  | lst hr hn t => cases e; exact ⟨_, _, rfl, hr, t⟩
  | @cell l a hm =>
    have e' : (match μ[l]? with | some (C.lst xs) => some xs | _ => none) = some xs := e
    split at e'
    · rename_i q
      cases e'
      obtain ⟨vs, e1, t⟩ := R.at_ l a _ hm q
      exact ⟨a, vs, rfl, .of e1, t⟩
    · cases e'
  | _ => cases e
theorem RVs.ofInts {A : AP_} : ∀ ns : List Int, RVs G A m H (ns.map V.int) (ns.map D.int)
  | [] => .nil
  | n :: r => .cons (.int n) (RVs.ofInts r)
theorem itemsR_at (R : Rep G S B m μ H) {v : V} {d : D} {xs : List D} (r : RV G (av S m) m H v d) (e : itemsR μ d = some xs) :
    ∃ a vs, v = .ref a ∧ SqL G.K H a vs ∧ RVs G (av S m) m H vs xs := by
  have gen : ∀ {d : D} {v : V}, RV G (av S m) m H v d → itemsL μ d = some xs → ∃ a vs, v = .ref a ∧ SqL G.K H a vs ∧ RVs G (av S m) m H vs xs := by
    intro d v r e
    obtain ⟨a, vs, e1, e2, e3⟩ := items_at R r e
    exact ⟨a, vs, e1, .inl e2, e3⟩
  cases r with
  | scr h =>
    cases e
    refine ⟨_, _, rfl, ?_, .ofInts _⟩
    rcases h with h | h
    · exact .inl h.1
    · exact .inr h
  | lst h n t => exact gen (.lst h n t) e
  | cell h => exact gen (.cell h) e
  | _ => cases e
end
end VM

set_option Elab.async false
set_option maxRecDepth 100000
set_option autoImplicit false
set_option linter.unusedVariables false
/-! the operations by their rules -/
namespace VM
open PySem PySem.Spec PyProof.Rows L2
abbrev P2 := D → D → Sto → R (D × Nat)
def rP2 (G : Gb) (f : P2) : R2 := fun x y H Q => ∃ S B W m μ σ d e, Rep G S B m μ H ∧ RV G (av S m) m H x d ∧ RV G (av S m) m H y e ∧ PostE G S B W m H σ Q (f d e μ)

section
variable {X : Cx}
/-! lists, by reading -/
theorem op_catR : OpR X (binaryOp .Add) (fun x y H Q => ∃ l b xs zs, x = .ref l ∧ y = .ref b ∧ SqL X.K H l xs ∧ SqL X.K H b zs ∧ xs.length + zs.length ≤ sizeLine ∧ ∀ p, H p = none → Q (.ref p) (upd H p (.lst (xs ++ zs)))) := by
  intro pins s σ H x y v u Q I rx ry h
  obtain ⟨l, b, xs, zs, rfl, rfl, hH, hB, hz, q⟩ := h
  cases rx
  cases ry
  obtain ⟨its, r, ⟨⟨c1, d1, t1, s1⟩, n, e, hc, hd, hdt⟩, z⟩ := I.list hH
  obtain ⟨its2, r2, ⟨⟨c2, d2, t2, s2⟩, n2, e2, hc2, hd2, hdt2⟩, z2⟩ := I.list hB
  simp only at hc hd hdt hc2 hd2 hdt2
  subst hc hd hdt hc2 hd2 hdt2
  have hl := r.length
  have hl2 := r2.length
  have ea : its.toArray ++ its2.toArray = (its ++ its2).toArray := by simp
  refine concat_meets ⟨_, e, rfl⟩ ⟨_, e2, rfl⟩ noFill_list_add seq_list_add PySem.F.slot_list_add PySem.F.entry_list_add (PySem.F.args_list_add_2 _ _) (list_addW l b its.toArray its2.toArray n n2 none none s1 s2 (by rw [List.size_toArray, List.size_toArray]; omega)) ⟨e, e2, ?_⟩
  rw [ea]
  exact ⟨.ref _, _, I.lnew (t' := s.toks) (r.append r2) (by rw [List.length_append]; omega), rfl, q _ I.fresh⟩
theorem op_repR : OpR X (binaryOp .Mult) (fun x y H Q => ∃ l k xs, x = .ref l ∧ y = .int k ∧ Rd H l (.lst xs) ∧ -(2 ^ 63) ≤ k ∧ k < 2 ^ 63 ∧ xs.length * k.toNat ≤ sizeLine ∧
  ∀ p, H p = none → Q (.ref p) (upd H p (.lst (List.replicate k.toNat xs).flatten))) := by
  intro pins s σ H x y v u Q I rx ry h
  obtain ⟨l, k, xs, rfl, rfl, hH, h1, h2, hz, q⟩ := h
  cases rx
  obtain ⟨t, rfl⟩ := ry
  obtain ⟨z, its, n, r, e⟩ := hH.ok I.hok
  have hl := r.length
  have hlen : its.toArray.size * k.toNat ≤ sizeLine := by rw [List.size_toArray, ← hl]; exact hz
  have hcap : ¬ its.toArray.size * k.toNat > (2 ^ 63 - 1) / 8 := by
    have : (sizeLine : Nat) ≤ (2 ^ 63 - 1) / 8 := by decide
    omega
  have hfit : ¬ (!Builtin.List.listFitsIndex k) = true := by
    rw [fitsIndex_both h1 h2]
    exact Bool.false_ne_true
  have hlong : ¬ Builtin.List.listTooLong (its.toArray.size * k.toNat) = true := by
    rw [notLongL hlen]
    exact Bool.false_ne_true
  have hnew : List.foldl (fun x1 x2 => x1 ++ x2) #[] (List.replicate (if its.toArray.isEmpty = true then 0 else k.toNat) its.toArray) = (List.replicate k.toNat its).flatten.toArray := by
    have f0 : ∀ m : Nat, List.foldl (fun x1 x2 => x1 ++ x2) #[] (List.replicate m its.toArray) = (List.replicate m its).flatten.toArray := fun m => by
      have := foldl_rep its m []
      rw [List.nil_append] at this
      exact this
    rw [f0]
    cases its with
    | nil => simp
    | cons a r' => rw [if_neg (by simp)]
  refine wpAny_binaryOp_repeat_ref (T := "list") (U := "int") (by decide) ⟨_, e, rfl⟩ (fun s' => typeIs_int s' k t) noFill_list_mul F.fills_int_mul F.slot_int_rmul repeat_list F.slot_int_index.lookup
    (call_meets F.slot_int_rmul (typeIs_int s k t) F.entry_int_rmul (F.args_int_rmul_2 _ _) (int___rmul___int_list k t l its.toArray n)
      ⟨e, rfl, ⟨_, e, rfl⟩, call_meets F.slot_list_mul ⟨_, e, rfl⟩ F.entry_list_mul (F.args_list_mul_2 _ _) (AutoListH.list___mul___list_int_3 l its.toArray n k t hfit hcap hlong) ⟨e, ?_⟩⟩)
  rw [hnew]
  exact ⟨.ref _, _, I.lnew (t' := s.toks) (r.rep k.toNat) (by rw [PyProof.Rows.lm_len_rep_flat, Nat.mul_comm]; exact hz), rfl, q _ I.fresh⟩
theorem mulBig {i j : Int} (h : i.natAbs.log2 + j.natAbs.log2 < 130000000) : IntMulOk i j := by
  have b : ∀ x : Int, Builtin.Int.intBits x ≤ x.natAbs.log2 + 1 := fun x => by
    unfold Builtin.Int.intBits
    split <;> omega
  have h1 := b i
  have h2 := b j
  have e : bitsLine = 134217728 := by decide
  unfold IntMulOk
  intro z
  rw [Bool.and_eq_true] at z
  have z2 := z.2
  unfold Builtin.Int.intTooBig at z2
  have z3 := of_decide_eq_true z2
  rw [e] at z3
  omega
theorem op_mulB : OpR X (binaryOp .Mult) (rI (fun i j => i.natAbs.log2 + j.natAbs.log2 < 130000000) fun i j => .int (i * j)) := opI fun _ _ _ _ _ _ _ hc q => mul_int q (mulBig hc)
/-- there is room for the great divisions -/
def DivOk (X : Cx) : Prop := ∀ s : Shared, X.A.frames = some X.stack → (∀ b o, X.base.get? b = some o → s.heap.get? b = some o) → PySem.PylongRoom (model X.prog X.w) X.A s
theorem op_fdivB (hd : DivOk X) : OpR X (binaryOp .FloorDiv) (rI (fun _ j => j ≠ 0) fun i j => .int (i.fdiv j)) := by
  intro pins s σ H x y v u Q I rx ry h
  obtain ⟨i, j, rfl, rfl, hc, q⟩ := h
  obtain ⟨t, rfl⟩ := rx
  obtain ⟨t', rfl⟩ := ry
  exact floordiv_int hc ⟨.int (i.fdiv j), H, I.tok _, ⟨_, rfl⟩, q⟩ (.inr (hd s I.ok.frames I.bk))


variable {G : Gb}
theorem OpR.imp {f : Value → Value → Sem Value} {r r' : R2} (h : OpR X f r) (k : ∀ x y H Q, r' x y H Q → r x y H Q) : OpR X f r' := fun pins s σ H x y v u Q I rx ry q => h pins s σ H x y v u Q I rx ry (k _ _ _ _ q)
theorem OpR.or2 {f : Value → Value → Sem Value} {r r' : R2} (h : OpR X f r) (h' : OpR X f r') : OpR X f (fun x y H Q => r x y H Q ∨ r' x y H Q) := fun pins s σ H x y v u Q I rx ry q => by
  rcases q with q | q
  · exact h pins s σ H x y v u Q I rx ry q
  · exact h' pins s σ H x y v u Q I rx ry q
theorem ifR {α : Type} {c : Prop} [Decidable c] {P : R α → Prop} {a : R α} (h : P (if c then a else .bad)) (hb : ¬ P .bad) : c ∧ P a := by
  by_cases hc : c
  · rw [if_pos hc] at h; exact ⟨hc, h⟩
  · rw [if_neg hc] at h; exact absurd h hb
theorem op_add (hK : X.K = G.K) : OpR X (binaryOp .Add) (rP2 G addD) := by
  refine OpR.imp (OpR.or2 L2.op_add (OpR.or2 op_add_str (OpR.or2 op_catT op_catR))) ?_
  rintro x y H Q ⟨S, B, W, m, μ, σ, d, e, R, rd, re, P⟩
  unfold addD at P
  have lists : ∀ {d : D} {x : V}, RV G (av S m) m H x d → PostE G S B W m H σ Q (match itemsR μ d with
      | none => .bad
      | some xs => match itemsR μ e with
        | none => .bad
        | some ys => if xs.length + ys.length ≤ sizeLine then .ok (.lst (xs ++ ys), 1) μ else .bad) →
      (∃ l b xs zs, x = V.ref l ∧ y = V.ref b ∧ SqL X.K H l xs ∧ SqL X.K H b zs ∧ xs.length + zs.length ≤ sizeLine ∧ ∀ p, H p = none → Q (.ref p) (upd H p (.lst (xs ++ zs)))) := by
    intro d x rd P
    cases h1 : itemsR μ d with
    | none => rw [h1] at P; exact P.elim
    | some xs =>
      cases h2 : itemsR μ e with
      | none => rw [h1, h2] at P; exact P.elim
      | some ys =>
        rw [h1, h2] at P
        obtain ⟨hz, P⟩ := ifR P id
        obtain ⟨a, vs, rfl, s1, t1⟩ := itemsR_at R rd h1
        obtain ⟨b, ws, rfl, s2, t2⟩ := itemsR_at R re h2
        exact ⟨a, b, vs, ws, rfl, rfl, by rw [hK]; exact s1, by rw [hK]; exact s2, by rw [t1.length, t2.length]; exact hz, fun p hp => P.newL R (t1.append t2) hp⟩
  cases rd with
  | int i =>
    cases re with
    | int j => exact .inl ⟨i, j, rfl, rfl, P.val R (.int _)⟩
    | _ => exact P.elim
  | str i =>
    cases re with
    | str j =>
      obtain ⟨hz, P⟩ := ifR P id
      exact .inr (.inl ⟨i, j, rfl, rfl, hz, P.val R (.str _)⟩)
    | _ => exact P.elim
  | tup h1 n1 t1 =>
    cases re with
    | tup h2 n2 t2 =>
      obtain ⟨⟨z1, z2, hz⟩, P⟩ := ifR P id
      refine .inr (.inr (.inl ⟨_, _, _, _, rfl, rfl, .of h1, .of h2, ?_, by rw [t1.length, t2.length]; exact hz, fun z => ?_, fun _ p hp => P.newT R (t1.append t2) hp⟩))
      · rintro rfl; cases t1; exact z1 rfl
      · subst z; cases t2; exact absurd rfl z2
    | _ => exact P.elim
  | lst h1 n1 t1 => exact .inr (.inr (.inr (lists (.lst h1 n1 t1) P)))
  | cell h1 => exact .inr (.inr (.inr (lists (.cell h1) P)))
  | scr h1 => exact .inr (.inr (.inr (lists (.scr h1) P)))
  | _ => exact False.elim P
theorem op_mul : OpR X (binaryOp .Mult) (rP2 G mulD) := by
  refine OpR.imp (OpR.or2 op_mulB op_repR) ?_
  rintro x y H Q ⟨S, B, W, m, μ, σ, d, e, R, rd, re, P⟩
  unfold mulD at P
  cases re with
  | int k =>
    have lists : ∀ {d : D} {x : V}, RV G (av S m) m H x d → PostE G S B W m H σ Q (match itemsL μ d with
        | none => .bad
        | some xs => if -(2 ^ 63) ≤ k ∧ k < 2 ^ 63 ∧ xs.length * k.toNat ≤ sizeLine then .ok (.lst (List.replicate k.toNat xs).flatten, 1) μ else .bad) →
        (∃ l k' xs, x = V.ref l ∧ V.int k = V.int k' ∧ Rd H l (.lst xs) ∧ -(2 ^ 63) ≤ k' ∧ k' < 2 ^ 63 ∧ xs.length * k'.toNat ≤ sizeLine ∧ ∀ p, H p = none → Q (.ref p) (upd H p (.lst (List.replicate k'.toNat xs).flatten))) := by
      intro d x rd P
      cases h1 : itemsL μ d with
      | none => rw [h1] at P; exact P.elim
      | some xs =>
        rw [h1] at P
        obtain ⟨⟨z1, z2, hz⟩, P⟩ := ifR P id
        obtain ⟨a, vs, rfl, s1, t1⟩ := items_at R rd h1
        exact ⟨a, k, vs, rfl, rfl, s1, z1, z2, by rw [t1.length]; exact hz, fun p hp => P.newL R (t1.rep _) hp⟩
    cases rd with
    | int i =>
      obtain ⟨hz, P⟩ := ifR P id
      exact .inl ⟨i, k, rfl, rfl, hz, P.val R (.int _)⟩
    | lst h1 n1 t1 => exact .inr (lists (.lst h1 n1 t1) P)
    | cell h1 => exact .inr (lists (.cell h1) P)
    | _ => exact False.elim P
  | _ => exact False.elim P
theorem op_intOp {op : Operator} {f : Int → Int → Option Int} {C : Int → Int → Prop} {g : Int → Int → Int} (h : OpR X (binaryOp op) (rI C fun i j => .int (g i j)))
    (k : ∀ i j z, f i j = some z → C i j ∧ z = g i j) : OpR X (binaryOp op) (rP2 G (intOp f)) := by
  refine OpR.imp h ?_
  rintro x y H Q ⟨S, B, W, m, μ, σ, d, e, R, rd, re, P⟩
  unfold intOp at P
  cases rd with
  | int i =>
    cases re with
    | int j =>
      cases q : f i j with
      | none =>
        have P : PostE G S B W m H σ Q (sh ((f i j).map .int) μ) := P
        rw [q] at P; exact False.elim P
      | some z =>
        have P : PostE G S B W m H σ Q (sh ((f i j).map .int) μ) := P
        rw [q] at P
        obtain ⟨c, rfl⟩ := k i j z q
        exact ⟨i, j, rfl, rfl, c, PostE.val P R (.int _)⟩
    | _ => exact False.elim P
  | _ => exact False.elim P
theorem some_if {c : Prop} [Decidable c] {a z : Int} (h : (if c then some a else none) = some z) : c ∧ z = a := by
  by_cases hc : c
  · rw [if_pos hc] at h; exact ⟨hc, (Option.some.inj h).symm⟩
  · rw [if_neg hc] at h; cases h
theorem op_bin (hK : X.K = G.K) (hd : DivOk X) (op : Operator) : OpR X (binaryOp op) (rP2 G (binD op)) := by
  cases op with
  | Add => exact op_add hK
  | Mult => exact op_mul
  | Sub => exact op_intOp (C := fun _ _ => True) (g := fun i j => i - j) (OpR.imp L2.op_sub fun x y H Q ⟨i, j, a, b, _, q⟩ => ⟨i, j, a, b, q⟩) fun i j z e => ⟨trivial, (Option.some.inj e).symm⟩
  | Mod => exact op_intOp op_modN fun i j z e => some_if e
  | FloorDiv => exact op_intOp (op_fdivB hd) fun i j z e => some_if e
  | Pow => exact op_intOp op_pow fun i j z e => let h := some_if e; ⟨h.1, h.2⟩
  | _ => exact fun pins s σ H x y v u Q I rx ry ⟨S, B, W, m, μ, σ', d, e, R, rd, re, P⟩ => False.elim P
end
end VM

set_option Elab.async false
set_option maxRecDepth 100000
set_option autoImplicit false
set_option linter.unusedVariables false
namespace VM
open PySem PySem.Spec PyProof.Rows L2
section
variable {G : Gb} {S : AP_} {B : Nat → Prop} {m : List Addr} {μ : Sto} {H : Hp}
theorem mapM_cons {α β : Type} {f : α → Option β} {x : α} {xs : List α} {ys : List β} (h : (x :: xs).mapM f = some ys) : ∃ y zs, f x = some y ∧ xs.mapM f = some zs ∧ ys = y :: zs := by
  rw [List.mapM_cons] at h
  cases e : f x with
  | none => rw [e] at h; cases h
  | some y =>
    rw [e] at h
    cases e2 : xs.mapM f with
    | none => rw [e2] at h; cases h
    | some zs => rw [e2] at h; exact ⟨y, zs, rfl, rfl, (Option.some.inj h).symm⟩
theorem mapM_nil {α β : Type} {f : α → Option β} {ys : List β} (h : ([] : List α).mapM f = some ys) : ys = [] := by
  rw [List.mapM_nil] at h; exact (Option.some.inj h).symm
theorem map_some {α β : Type} {f : α → β} {o : Option α} {y : β} (h : o.map f = some y) : ∃ x, o = some x ∧ y = f x := by
  cases o with
  | none => cases h
  | some x => exact ⟨x, rfl, (Option.some.inj h).symm⟩
theorem dp_all {K : PySem.W.Frag} {A : AP_} {f : D → Option PyData} (ih : ∀ (d : D) (v : V) (p : PyData), f d = some p → RV G A m H v d → Dp K H v p) :
    ∀ {ds : List D} {vs : List V} {ps : List PyData}, ds.mapM f = some ps → RVs G A m H vs ds → DpAll K H vs ps
  | _, _, _, e, .nil => by rw [mapM_nil e]; exact .nil
  | _, _, _, e, .cons r t => by
    obtain ⟨y, zs, e1, e2, rfl⟩ := mapM_cons e
    exact .cons (ih _ _ _ e1 r) (dp_all ih e2 t)
theorem dp_ints {K : PySem.W.Frag} : ∀ ns : List Int, DpAll K H (ns.map V.int) (ns.map PyData.int)
  | [] => .nil
  | n :: r => .cons (.int n) (dp_ints r)
theorem dp_of (R : Rep G S B m μ H) : ∀ (n : Nat) (d : D) (v : V) (p : PyData), toPy μ n d = some p → RV G (av S m) m H v d → Dp G.K H v p
  | 0, _, _, _, e, _ => by cases e
  | n + 1, d, v, p, e, r => by
    cases r with
    | non => cases e; exact .non
    | bl b => cases e; exact .bl b
    | int i => cases e; exact .int i
    | str s => cases e; exact .str s
    | ty n => cases e
    | fn g => cases e
    | scr h1 =>
      cases e
      rcases h1 with h1 | h1
      · exact .lst (.inl h1.1) (dp_ints _)
      · exact .lst (.inr h1) (dp_ints _)
    | lst h1 n1 t =>
      obtain ⟨ps, e1, rfl⟩ := map_some e
      exact .lst (.inl h1) (dp_all (fun d v p => dp_of R n d v p) e1 t)
    | tup h1 n1 t =>
      obtain ⟨ps, e1, rfl⟩ := map_some e
      exact .tup (.of h1) (dp_all (fun d v p => dp_of R n d v p) e1 t)
    | @cell l a hm =>
      have e' : (match μ[l]? with | some (C.lst xs) => (xs.mapM (toPy μ n)).map PyData.list | _ => none) = some p := e
      split at e'
      · rename_i q
        obtain ⟨ps, e1, rfl⟩ := map_some e'
        obtain ⟨vs, e2, t⟩ := R.at_ l a _ hm q
        exact .lst (.of e2) (dp_all (fun d v p => dp_of R n d v p) e1 t)
      · cases e'
/-- a tuple or a list -/
theorem itemsS_at (R : Rep G S B m μ H) {v : V} {d : D} {xs : List D} (r : RV G (av S m) m H v d) (e : itemsS μ d = some xs) :
    ∃ a vs, v = .ref a ∧ (SqL G.K H a vs ∨ H a = some (.tup vs)) ∧ RVs G (av S m) m H vs xs := by
  have gen : ∀ {d : D} {v : V}, RV G (av S m) m H v d → itemsR μ d = some xs → ∃ a vs, v = .ref a ∧ (SqL G.K H a vs ∨ H a = some (.tup vs)) ∧ RVs G (av S m) m H vs xs := by
    intro d v r e
    obtain ⟨a, vs, e1, e2, e3⟩ := itemsR_at R r e
    exact ⟨a, vs, e1, .inl e2, e3⟩
  cases r with
  | tup h1 n1 t => cases e; exact ⟨_, _, rfl, .inr h1, t⟩
  | lst h1 n1 t => exact gen (.lst h1 n1 t) e
  | cell h1 => exact gen (.cell h1) e
  | scr h1 => exact gen (.scr h1) e
  | _ => cases e
theorem tru_at (R : Rep G S B m μ H) {v : V} {d : D} {k : Bool} (r : RV G (av S m) m H v d) (e : truD μ d = some k) : TruV G.K v H k := by
  have seq : ∀ {d : D} {v : V}, RV G (av S m) m H v d → (itemsS μ d).map (fun xs => !xs.isEmpty) = some k → TruV G.K v H k := by
    intro d v r e
    obtain ⟨xs, e1, rfl⟩ := map_some e
    obtain ⟨a, vs, rfl, h, t⟩ := itemsS_at R r e1
    have hk : (!xs.isEmpty) = !vs.isEmpty := by cases t <;> rfl
    rcases h with h | h
    · exact .inl ⟨vs, h, hk⟩
    · exact .inr (.inl ⟨vs, .of h, hk⟩)
  cases r with
  | non => cases e; rfl
  | bl b => cases e; rfl
  | int i => cases e; rfl
  | str s =>
    have e' : (if s.length ≤ sizeLine then some ((s.length : Int) != 0) else none) = some k := e
    by_cases hz : s.length ≤ sizeLine
    · rw [if_pos hz] at e'; exact ⟨hz, (Option.some.inj e').symm⟩
    · rw [if_neg hz] at e'; cases e'
  | tup h1 n1 t => exact seq (.tup h1 n1 t) e
  | lst h1 n1 t => exact seq (.lst h1 n1 t) e
  | cell h1 => exact seq (.cell h1) e
  | scr h1 => exact seq (.scr h1) e
  | _ => cases e
theorem RVs.atI {A : AP_} {vs : List V} {ds : List D} {k : Int} {d : D} (t : RVs G A m H vs ds) (e : atI ds k = some d) : ∃ v, atI vs k = some v ∧ RV G A m H v d := by
  unfold L2.atI at e ⊢
  rw [t.length]
  cases q : ixN ds.length k with
  | none => rw [q] at e; cases e
  | some j =>
    rw [q] at e
    exact t.get e
end

section
variable {X : Cx} {G : Gb}
theorem decide_strV {s t : Str} : decide (V.str s = V.str t) = decide (s = t) := by
  by_cases h : s = t
  · subst h; simp
  · rw [decide_eq_false h, decide_eq_false fun z => h (by cases z; rfl)]
theorem eqD_S {μ : Sto} {d e : D} (h : ¬ ∃ s t, d = .str s ∧ e = .str t) : eqD μ d e = eqS μ d e := by
  cases d with
  | str s =>
    cases e with
    | str t => exact absurd ⟨s, t, rfl, rfl⟩ h
    | _ => rfl
  | _ => cases e <;> rfl
theorem non_at {A : AP_} {m : List Addr} {H : Hp} {v : V} {d : D} (r : RV G A m H v d) (h : fnD d = false) : nonD d = decide (v = .non) := by
  cases r <;> first | rfl | cases h | simp [nonD]
theorem flat_at {A : AP_} {m : List Addr} {H : Hp} {v : V} {d : D} (r : RV G A m H v d) (h : flatD d = true) : v = vOf d ∧ flatV v = true := by
  cases r <;> first | exact ⟨rfl, rfl⟩ | cases h
theorem flats_at {A : AP_} {m : List Addr} {H : Hp} : ∀ {vs : List V} {ds : List D}, RVs G A m H vs ds → ds.all flatD = true → vs = ds.map vOf ∧ vs.all flatV = true
  | _, _, .nil, _ => ⟨rfl, rfl⟩
  | _, _, .cons r t, h => by
    rw [List.all_cons, Bool.and_eq_true] at h
    obtain ⟨h1, h2⟩ := flat_at r h.1
    obtain ⟨h3, h4⟩ := flats_at t h.2
    exact ⟨by rw [List.map_cons, ← h1, ← h3], by rw [List.all_cons, h2, h4]; rfl⟩
theorem in_at {S : AP_} {B : Nat → Prop} {m : List Addr} {μ : Sto} {H : Hp} {x y : V} {d e : D} {k : Bool} (R : Rep G S B m μ H) (rd : RV G (av S m) m H x d) (re : RV G (av S m) m H y e) (h : inD μ d e = some k) :
    (∃ i j, x = .str i ∧ y = .str j ∧ k = !(Builtin.Str.occurrences j i 0 j.length 1).isEmpty) ∨ ∃ p xs, y = .ref p ∧ (SqL G.K H p xs ∨ SqT G.K H p xs) ∧ flatV x = true ∧ xs.all flatV = true ∧ k = inV x xs := by
  have gen : ∀ xs, itemsS μ e = some xs → (if flatD d && xs.all flatD then some (inV (vOf d) (xs.map vOf)) else none) = some k → ∃ p xs, y = .ref p ∧ (SqL G.K H p xs ∨ SqT G.K H p xs) ∧ flatV x = true ∧ xs.all flatV = true ∧ k = inV x xs := by
    intro xs h1 h2
    by_cases hf : (flatD d && xs.all flatD) = true
    · rw [if_pos hf] at h2
      rw [Bool.and_eq_true] at hf
      obtain ⟨a, vs, rfl, hh, t⟩ := itemsS_at R re h1
      obtain ⟨e1, f1⟩ := flat_at rd hf.1
      obtain ⟨e2, f2⟩ := flats_at t hf.2
      exact ⟨a, vs, rfl, hh.elim .inl fun z => .inr (.of z), f1, f2, by rw [e1, e2]; exact (Option.some.inj h2).symm⟩
    · rw [if_neg hf] at h2; cases h2
  unfold inD at h
  split at h
  · rename_i z
    cases re
    split at h
    · rename_i w
      cases rd
      exact .inl ⟨_, _, rfl, rfl, (Option.some.inj h).symm⟩
    · cases h
  · split at h
    · rename_i xs h1
      exact .inr (gen xs h1 h)
    · cases h
theorem op_cmp (hK : X.K = G.K) (hu : X.A.units + 64 < cLine) (op : CmpOp) : OpR X (compareOp op) (rP2 G (fun a b μ => sh ((cmpD op a b μ).map .bl) μ)) := by
  have hInts : ∀ {f : Int → Int → Bool}, OpR X (compareOp op) (rI0 fun i j => .bl (f i j)) → (∀ a b μ, cmpD op a b μ = match a, b with | .int i, .int j => some (f i j) | _, _ => none) →
      OpR X (compareOp op) (rP2 G (fun a b μ => sh ((cmpD op a b μ).map .bl) μ)) := by
    intro f h k
    refine OpR.imp h ?_
    rintro x y H Q ⟨S, B, W, m, μ, σ, d, e, R, rd, re, P⟩
    cases rd with
    | int i =>
      cases re with
      | int j =>
        have P : PostE G S B W m H σ Q (sh ((cmpD op (.int i) (.int j) μ).map .bl) μ) := P
        rw [k] at P
        exact ⟨i, j, rfl, rfl, P.val R (.bl _)⟩
      | _ =>
        simp only [k] at P
        exact False.elim P
    | _ =>
      simp only [k] at P
      exact False.elim P
  cases op with
  | Lt => exact hInts op_lt fun a b μ => rfl
  | LtE => exact hInts op_le fun a b μ => rfl
  | Gt => exact hInts op_gt fun a b μ => rfl
  | GtE => exact hInts op_ge fun a b μ => rfl
  | Eq =>
    refine OpR.imp (OpR.or2 op_eq (op_eqD hu)) ?_
    rintro x y H Q ⟨S, B, W, m, μ, σ, d, e, R, rd, re, P⟩
    have P : PostE G S B W m H σ Q (sh ((eqD μ d e).map .bl) μ) := P
    by_cases hst : ∃ s t, d = .str s ∧ e = .str t
    · obtain ⟨s, t, rfl, rfl⟩ := hst
      cases rd with
      | str =>
        cases re with
        | str =>
          have P : PostE G S B W m H σ Q (.ok (.bl (decide (s = t)), 0) μ) := P
          exact .inl ⟨rfl, by rw [decide_strV]; exact P.val R (.bl _)⟩
    have P : PostE G S B W m H σ Q (sh ((eqS μ d e).map .bl) μ) := by rw [← eqD_S hst]; exact P
    right
    unfold eqS at P
    split at P
    · rename_i p q h1 h2
      by_cases hs : (SeqAt.shaped p && SeqAt.shaped q) = true
      · rw [if_pos hs] at P
        rw [Bool.and_eq_true] at hs
        exact ⟨p, q, by rw [hK]; exact dp_of R _ _ _ _ h1 rd, by rw [hK]; exact dp_of R _ _ _ _ h2 re, hs.1, hs.2, P.val R (.bl _)⟩
      · rw [if_neg hs] at P; exact False.elim P
    · exact False.elim P
  | NotEq =>
    refine OpR.imp (OpR.or2 op_ne (op_neD hu)) ?_
    rintro x y H Q ⟨S, B, W, m, μ, σ, d, e, R, rd, re, P⟩
    have P : PostE G S B W m H σ Q (sh (((eqD μ d e).map fun k => !k).map .bl) μ) := P
    by_cases hst : ∃ s t, d = .str s ∧ e = .str t
    · obtain ⟨s, t, rfl, rfl⟩ := hst
      cases rd with
      | str =>
        cases re with
        | str =>
          have P : PostE G S B W m H σ Q (.ok (.bl (!decide (s = t)), 0) μ) := P
          exact .inl ⟨rfl, by rw [decide_strV]; exact P.val R (.bl _)⟩
    have P : PostE G S B W m H σ Q (sh (((eqS μ d e).map fun k => !k).map .bl) μ) := by rw [← eqD_S hst]; exact P
    right
    unfold eqS at P
    split at P
    · rename_i p q h1 h2
      by_cases hs : (SeqAt.shaped p && SeqAt.shaped q) = true
      · rw [if_pos hs] at P
        rw [Bool.and_eq_true] at hs
        exact ⟨p, q, by rw [hK]; exact dp_of R _ _ _ _ h1 rd, by rw [hK]; exact dp_of R _ _ _ _ h2 re, hs.1, hs.2, P.val R (.bl _)⟩
      · rw [if_neg hs] at P; exact False.elim P
    · exact False.elim P
  | Is =>
    refine OpR.imp op_isN ?_
    rintro x y H Q ⟨S, B, W, m, μ, σ, d, e, R, rd, re, P⟩
    have P : PostE G S B W m H σ Q (sh ((if nonD e && !fnD d then some (nonD d) else none).map .bl) μ) := P
    cases re with
    | non =>
      cases hf : fnD d with
      | true => rw [hf] at P; exact False.elim P
      | false =>
        rw [hf] at P
        have P : PostE G S B W m H σ Q (.ok (.bl (nonD d), 0) μ) := P
        rw [non_at rd hf] at P
        exact ⟨rfl, P.val R (.bl _)⟩
    | _ => exact False.elim P
  | IsNot =>
    refine OpR.imp op_notN ?_
    rintro x y H Q ⟨S, B, W, m, μ, σ, d, e, R, rd, re, P⟩
    have P : PostE G S B W m H σ Q (sh ((if nonD e && !fnD d then some (!nonD d) else none).map .bl) μ) := P
    cases re with
    | non =>
      cases hf : fnD d with
      | true => rw [hf] at P; exact False.elim P
      | false =>
        rw [hf] at P
        have P : PostE G S B W m H σ Q (.ok (.bl (!nonD d), 0) μ) := P
        rw [non_at rd hf] at P
        exact ⟨rfl, P.val R (.bl _)⟩
    | _ => exact False.elim P
  | In =>
    refine OpR.imp (OpR.or2 op_in_str op_in_seq) ?_
    rintro x y H Q ⟨S, B, W, m, μ, σ, d, e, R, rd, re, P⟩
    have P : PostE G S B W m H σ Q (sh ((inD μ d e).map .bl) μ) := P
    cases h : inD μ d e with
    | none => rw [h] at P; exact False.elim P
    | some k =>
      rw [h] at P
      have P : PostE G S B W m H σ Q (.ok (.bl k, 0) μ) := P
      rcases in_at R rd re h with ⟨i, j, rfl, rfl, e⟩ | ⟨p, xs, rfl, h1, h2, h3, e⟩
      · exact .inl ⟨i, j, rfl, rfl, by rw [← e]; exact P.val R (.bl _)⟩
      · exact .inr ⟨p, xs, rfl, by rw [hK]; exact h1, h2, h3, by rw [if_neg (by decide), ← e]; exact P.val R (.bl _)⟩
  | NotIn =>
    refine OpR.imp (OpR.or2 op_notIn_str op_notIn_seq) ?_
    rintro x y H Q ⟨S, B, W, m, μ, σ, d, e, R, rd, re, P⟩
    have P : PostE G S B W m H σ Q (sh (((inD μ d e).map fun k => !k).map .bl) μ) := P
    cases h : inD μ d e with
    | none => rw [h] at P; exact False.elim P
    | some k =>
      rw [h] at P
      have P : PostE G S B W m H σ Q (.ok (.bl !k, 0) μ) := P
      rcases in_at R rd re h with ⟨i, j, rfl, rfl, e⟩ | ⟨p, xs, rfl, h1, h2, h3, e⟩
      · exact .inl ⟨i, j, rfl, rfl, by rw [← e]; exact P.val R (.bl _)⟩
      · exact .inr ⟨p, xs, rfl, by rw [hK]; exact h1, h2, h3, by rw [if_pos rfl, ← e]; exact P.val R (.bl _)⟩
theorem IxR.imp {r r' : R2} (h : IxR X r) (k : ∀ x y H Q, r' x y H Q → r x y H Q) : IxR X r' := fun a b pins s σ H x y v u Q I rx ry q => h a b pins s σ H x y v u Q I rx ry (k _ _ _ _ q)
theorem ix_rule (hK : X.K = G.K) : IxR X (rP2 G (fun a i μ => sh (ixD a i μ) μ)) := by
  refine IxR.imp (ix_list.or ix_tup) ?_
  rintro x y H Q ⟨S, B, W, m, μ, σ, d, e, R, rd, re, P⟩
  cases re with
  | int k =>
    have P : PostE G S B W m H σ Q (sh (match itemsS μ d with | some xs => atI xs k | none => none) μ) := P
    cases h : itemsS μ d with
    | none => rw [h] at P; exact False.elim P
    | some xs =>
      rw [h] at P
      have P : PostE G S B W m H σ Q (sh (atI xs k) μ) := P
      cases h2 : atI xs k with
      | none => rw [h2] at P; exact False.elim P
      | some z =>
        rw [h2] at P
        obtain ⟨a, vs, rfl, hh, t⟩ := itemsS_at R rd h
        obtain ⟨w, e1, r1⟩ := t.atI h2
        rcases hh with hh | hh
        · exact .inl ⟨a, vs, k, w, rfl, rfl, by rw [hK]; exact hh, e1, P.val R r1⟩
        · exact .inr ⟨a, vs, k, w, rfl, rfl, .of hh, e1, P.val R r1⟩
  | _ => exact False.elim P
theorem un_negR {x : V} {H : Hp} {Q : VK} {S : AP_} {B : Nat → Prop} {W : L2.WX} {m : List Addr} {μ : Sto} {σ : L2.St} {d : D} (R : Rep G S B m μ H) (rd : RV G (av S m) m H x d)
    (P : PostE G S B W m H σ Q (negD d μ)) : rU (fun i => .int (-i)) x H Q := by
  cases rd with
  | int i => exact ⟨i, rfl, P.val R (.int _)⟩
  | _ => exact False.elim P
theorem cut_len {vs : List V} {ds : List D} (h : vs.length = ds.length) (lo hi : Option Int) : cutV vs lo hi = (vs.drop (HT.sIx ds.length 0 lo)).take (HT.sIx ds.length ds.length hi - HT.sIx ds.length 0 lo) := by
  unfold cutV; rw [h]
theorem sl_listR : SlR X (fun x lo hi H Q => ∃ a xs, x = .ref a ∧ SqL X.K H a xs ∧ ∀ p, H p = none → Q (.ref p) (upd H p (.lst (cutV xs lo hi)))) := sl_list
theorem sl_at {x : V} {lo hi : Option Int} {H : Hp} {Q : VK} {S : AP_} {B : Nat → Prop} {W : L2.WX} {m : List Addr} {μ : Sto} {σ : L2.St} {d : D} (R : Rep G S B m μ H) (rd : RV G (av S m) m H x d)
    (P : PostE G S B W m H σ Q (slD d lo hi μ)) : rSlL G.K x lo hi H Q := by
  unfold slD at P
  cases h : itemsR μ d with
  | none => rw [h] at P; exact False.elim P
  | some xs =>
    rw [h] at P
    obtain ⟨a, vs, rfl, hh, t⟩ := itemsR_at R rd h
    refine ⟨a, vs, rfl, hh, fun p hp => ?_⟩
    rw [cut_len t.length]
    exact P.newL R ((t.drop _).take _) hp
theorem CallR.imp {f : Value} {r r' : List V → Hp → VK → Prop} (h : CallR X f r) (k : ∀ xs H Q, r' xs H Q → r xs H Q) : CallR X f r' := fun pins s σ H xs us Q I rs q => h pins s σ H xs us Q I rs (k _ _ _ q)
end
end VM

set_option Elab.async false
set_option maxRecDepth 100000
set_option autoImplicit false
set_option linter.unusedVariables false
namespace VM
open PySem PySem.Spec PyProof.Rows L2
def rC (G : Gb) (f : List D → Sto → R (D × Nat)) : List V → Hp → VK → Prop := fun vs H Q => ∃ S B W m μ σ ds, Rep G S B m μ H ∧ RVs G (av S m) m H vs ds ∧ PostE G S B W m H σ Q (f ds μ)
section
variable {X : Cx} {G : Gb}
theorem RVs.one {A : AP_} {m : List Addr} {H : Hp} {vs : List V} {d : D} (t : RVs G A m H vs [d]) : ∃ v, vs = [v] ∧ RV G A m H v d := by
  cases t with
  | cons r t => cases t; exact ⟨_, rfl, r⟩
theorem RVs.two {A : AP_} {m : List Addr} {H : Hp} {vs : List V} {d e : D} (t : RVs G A m H vs [d, e]) : ∃ v w, vs = [v, w] ∧ RV G A m H v d ∧ RV G A m H w e := by
  cases t with
  | cons r t => obtain ⟨w, rfl, r2⟩ := t.one; exact ⟨_, _, rfl, r, r2⟩
theorem callLen (hK : X.K = G.K) : CallR X (.builtin "len") (rC G lenD) := by
  refine CallR.imp call_len ?_
  rintro vs H Q ⟨S, B, W, m, μ, σ, ds, R, t, P⟩
  unfold lenD at P
  split at P
  · rename_i d
    obtain ⟨v, rfl, r⟩ := t.one
    have seq : ∀ {d : D} {v : V}, RV G (av S m) m H v d → PostE G S B W m H σ Q (sh ((itemsS μ d).map fun xs => .int xs.length) μ) → ∃ x n, [v] = [x] ∧ LenV X.K x H n ∧ Q (.int n) H := by
      intro d v r P
      cases h : itemsS μ d with
      | none => rw [h] at P; exact False.elim P
      | some xs =>
        rw [h] at P
        obtain ⟨a, vs, rfl, hh, tt⟩ := itemsS_at R r h
        refine ⟨_, xs.length, rfl, ?_, P.val R (.int _)⟩
        rcases hh with hh | hh
        · exact .inl ⟨vs, by rw [hK]; exact hh, tt.length.symm⟩
        · exact .inr ⟨vs, .of hh, tt.length.symm⟩
    cases r with
    | str s =>
      obtain ⟨hz, P⟩ := ifR P id
      exact ⟨_, _, rfl, ⟨hz, rfl⟩, P.val R (.int _)⟩
    | lst h1 n1 t1 => exact seq (.lst h1 n1 t1) P
    | tup h1 n1 t1 => exact seq (.tup h1 n1 t1) P
    | cell h1 => exact seq (.cell h1) P
    | scr h1 => exact seq (.scr h1) P
    | _ => exact False.elim P
  · exact False.elim P
theorem callInt : CallR X (.type "int") (rC G intD) := by
  refine CallR.imp call_int1 ?_
  rintro vs H Q ⟨S, B, W, m, μ, σ, ds, R, t, P⟩
  unfold intD at P
  split at P
  · obtain ⟨v, rfl, r⟩ := t.one
    cases r with
    | int i => exact .inl ⟨i, rfl, P.val R (.int _)⟩
    | bl i => exact .inr ⟨i, rfl, P.val R (.int _)⟩
    | _ => exact False.elim P
  · exact False.elim P
theorem callAbs : CallR X (.builtin "abs") (rC G absD) := by
  refine CallR.imp call_abs ?_
  rintro vs H Q ⟨S, B, W, m, μ, σ, ds, R, t, P⟩
  unfold absD at P
  split at P
  · obtain ⟨v, rfl, r⟩ := t.one
    cases r with
    | int i => exact ⟨i, rfl, P.val R (.int _)⟩
    | _ => exact False.elim P
  · exact False.elim P
theorem ofI_eq {d : D} {i : Int} (h : ofI d = some i) : d = .int i := by
  cases d <;> first | cases h | skip
  rfl
theorem ofB_eq {d : D} {i : Bool} (h : ofB d = some i) : d = .bl i := by
  cases d <;> first | cases h | skip
  rfl
theorem callList (hK : X.K = G.K) : CallR X (.type "list") (rC G listD) := by
  refine CallR.imp call_list_of ?_
  rintro vs H Q ⟨S, B, W, m, μ, σ, ds, R, t, P⟩
  unfold listD at P
  split at P
  · rename_i d
    obtain ⟨v, rfl, r⟩ := t.one
    cases h : itemsS μ d with
    | none => rw [h] at P; exact False.elim P
    | some xs =>
      rw [h] at P
      obtain ⟨a, vs, rfl, hh, tt⟩ := itemsS_at R r h
      refine ⟨a, vs, rfl, ?_, fun l hl => P.newL R tt hl⟩
      rcases hh with hh | hh
      · exact .inl (by rw [hK]; exact hh)
      · exact .inr (.of hh)
  · exact False.elim P
theorem callTuple (hK : X.K = G.K) : CallR X (.type "tuple") (rC G tupleD) := by
  refine CallR.imp call_tuple_of ?_
  rintro vs H Q ⟨S, B, W, m, μ, σ, ds, R, t, P⟩
  unfold tupleD at P
  split at P
  · rename_i d
    obtain ⟨v, rfl, r⟩ := t.one
    cases h : itemsS μ d with
    | none => rw [h] at P; exact False.elim P
    | some xs =>
      rw [h] at P
      cases r with
      | tup h1 n1 t1 =>
        cases h
        exact ⟨_, _, rfl, .inr ⟨.of h1, P.val R (.tup h1 n1 t1)⟩⟩
      | lst h1 n1 t1 =>
        obtain ⟨a, vs, e, hh, tt⟩ := itemsR_at R (.lst h1 n1 t1) h
        cases e
        exact ⟨_, vs, rfl, .inl ⟨by rw [hK]; exact hh, fun l hl => P.newT R tt hl⟩⟩
      | cell h1 =>
        obtain ⟨a, vs, e, hh, tt⟩ := itemsR_at R (.cell h1) h
        cases e
        exact ⟨_, vs, rfl, .inl ⟨by rw [hK]; exact hh, fun l hl => P.newT R tt hl⟩⟩
      | scr h1 =>
        obtain ⟨a, vs, e, hh, tt⟩ := itemsR_at R (.scr h1) h
        cases e
        exact ⟨_, vs, rfl, .inl ⟨by rw [hK]; exact hh, fun l hl => P.newT R tt hl⟩⟩
      | _ => cases h
  · exact False.elim P
theorem RVs.ints {A : AP_} {m : List Addr} {H : Hp} : ∀ {ds : List D} {vs : List V} {ks : List Int}, RVs G A m H vs ds → ds.mapM ofI = some ks → vs = ks.map V.int
  | _, _, _, .nil, e => by rw [mapM_nil e]; rfl
  | _, _, _, .cons r t, e => by
    obtain ⟨y, zs, e1, e2, rfl⟩ := mapM_cons e
    rw [ofI_eq e1] at r
    cases r
    rw [RVs.ints t e2]; rfl
theorem RVs.bls {A : AP_} {m : List Addr} {H : Hp} : ∀ {ds : List D} {vs : List V} {ks : List Bool}, RVs G A m H vs ds → ds.mapM ofB = some ks → vs = ks.map V.bl
  | _, _, _, .nil, e => by rw [mapM_nil e]; rfl
  | _, _, _, .cons r t, e => by
    obtain ⟨y, zs, e1, e2, rfl⟩ := mapM_cons e
    rw [ofB_eq e1] at r
    cases r
    rw [RVs.bls t e2]; rfl
theorem overL {α : Type} {S : AP_} {B : Nat → Prop} {W : L2.WX} {m : List Addr} {μ : Sto} {H : Hp} {σ : L2.St} {Q : VK} {v : V} {d : D} {f : D → Option α} {g : List α → D} (R : Rep G S B m μ H) (r : RV G (av S m) m H v d)
    (P : PostE G S B W m H σ Q (sh ((itemsL μ d).bind fun xs => (xs.mapM f).map fun ks => g ks) μ)) : ∃ a vs xs ks, v = .ref a ∧ Rd H a (.lst vs) ∧ RVs G (av S m) m H vs xs ∧ xs.mapM f = some ks ∧ PostE G S B W m H σ Q (.ok (g ks, 0) μ) := by
  cases h : itemsL μ d with
  | none => rw [h] at P; exact False.elim P
  | some xs =>
    rw [h] at P
    have P : PostE G S B W m H σ Q (sh ((xs.mapM f).map fun ks => g ks) μ) := P
    cases h2 : xs.mapM f with
    | none => rw [h2] at P; exact False.elim P
    | some ks =>
      rw [h2] at P
      obtain ⟨a, vs, rfl, hh, tt⟩ := items_at R r h
      exact ⟨a, vs, xs, ks, rfl, hh, tt, h2, P⟩
theorem callAll (hc : X.calm = true) : CallR X (.builtin "all") (rC G allD) := by
  refine CallR.imp (cr_all hc) ?_
  rintro vs H Q ⟨S, B, W, m, μ, σ, ds, R, t, P⟩
  unfold allD at P
  split at P
  · obtain ⟨v, rfl, r⟩ := t.one
    obtain ⟨a, vs, xs, ks, rfl, hh, tt, h2, P⟩ := overL R r P
    refine ⟨a, ks, rfl, ?_, P.val R (.bl _)⟩
    rw [← tt.bls h2]; exact .inl hh
  · exact False.elim P
theorem callAny (hc : X.calm = true) : CallR X (.builtin "any") (rC G anyD) := by
  refine CallR.imp (cr_any hc) ?_
  rintro vs H Q ⟨S, B, W, m, μ, σ, ds, R, t, P⟩
  unfold anyD at P
  split at P
  · obtain ⟨v, rfl, r⟩ := t.one
    obtain ⟨a, vs, xs, ks, rfl, hh, tt, h2, P⟩ := overL R r P
    refine ⟨a, ks, rfl, ?_, P.val R (.bl _)⟩
    rw [← tt.bls h2]; exact .inl hh
  · exact False.elim P
theorem callSum (hc : X.calm = true) : CallR X (.builtin "sum") (rC G sumD) := by
  refine CallR.imp (cr_sum hc) ?_
  rintro vs H Q ⟨S, B, W, m, μ, σ, ds, R, t, P⟩
  unfold sumD at P
  split at P
  · obtain ⟨v, rfl, r⟩ := t.one
    obtain ⟨a, vs, xs, ks, rfl, hh, tt, h2, P⟩ := overL R r P
    refine ⟨a, ks, rfl, ?_, P.val R (.int _)⟩
    rw [← tt.ints h2]; exact .inl hh
  · exact False.elim P
theorem overL2 {S : AP_} {B : Nat → Prop} {W : L2.WX} {m : List Addr} {μ : Sto} {H : Hp} {σ : L2.St} {Q : VK} {v : V} {d : D} {g : List Int → R (D × Nat)} (R' : Rep G S B m μ H) (r : RV G (av S m) m H v d)
    (P : PostE G S B W m H σ Q (match (itemsL μ d).bind fun xs => xs.mapM ofI with | some ks => g ks | none => .bad)) : ∃ a ks, v = .ref a ∧ Rd H a (.lst (ks.map V.int)) ∧ PostE G S B W m H σ Q (g ks) := by
  cases h : itemsL μ d with
  | none => rw [h] at P; exact False.elim P
  | some xs =>
    rw [h] at P
    have P : PostE G S B W m H σ Q (match xs.mapM ofI with | some ks => g ks | none => .bad) := P
    cases h2 : xs.mapM ofI with
    | none => rw [h2] at P; exact False.elim P
    | some ks =>
      rw [h2] at P
      obtain ⟨a, vs, rfl, hh, tt⟩ := items_at R' r h
      exact ⟨a, ks, rfl, by rw [← tt.ints h2]; exact hh, P⟩
theorem maxL_is : ∀ {ks : List Int} {m : Int}, m ∈ ks → (∀ y ∈ ks, y ≤ m) → maxL ks = m := by
  have key : ∀ (ks : List Int) (k : Int), ks.foldl max k = k ∨ ks.foldl max k ∈ ks := by
    intro ks
    induction ks with
    | nil => intro k; exact .inl rfl
    | cons a ks ih =>
      intro k
      rcases ih (max k a) with h | h
      · rw [List.foldl_cons, h]
        rcases Int.le_total k a with h2 | h2
        · exact .inr (by rw [Int.max_eq_right h2]; exact List.mem_cons_self)
        · exact .inl (by rw [Int.max_eq_left h2])
      · exact .inr (List.mem_cons_of_mem _ h)
  have up : ∀ (ks : List Int) (k : Int), k ≤ ks.foldl max k ∧ ∀ y ∈ ks, y ≤ ks.foldl max k := by
    intro ks
    induction ks with
    | nil => intro k; exact ⟨Int.le_refl _, fun _ h => by cases h⟩
    | cons a ks ih =>
      intro k
      obtain ⟨h1, h2⟩ := ih (max k a)
      refine ⟨Int.le_trans (Int.le_max_left _ _) h1, fun y hy => ?_⟩
      rcases List.mem_cons.mp hy with rfl | hy
      · exact Int.le_trans (Int.le_max_right _ _) h1
      · exact h2 y hy
  intro ks m hm hle
  cases ks with
  | nil => cases hm
  | cons k ks =>
    show ks.foldl max k = m
    obtain ⟨u1, u2⟩ := up ks k
    have h1 : m ≤ ks.foldl max k := by
      rcases List.mem_cons.mp hm with rfl | hm
      · exact u1
      · exact u2 m hm
    have h2 : ks.foldl max k ≤ m := by
      rcases key ks k with h | h
      · rw [h]; exact hle k List.mem_cons_self
      · exact hle _ (List.mem_cons_of_mem _ h)
    omega
theorem minL_is : ∀ {ks : List Int} {m : Int}, m ∈ ks → (∀ y ∈ ks, m ≤ y) → minL ks = m := by
  have key : ∀ (ks : List Int) (k : Int), ks.foldl min k = k ∨ ks.foldl min k ∈ ks := by
    intro ks
    induction ks with
    | nil => intro k; exact .inl rfl
    | cons a ks ih =>
      intro k
      rcases ih (min k a) with h | h
      · rw [List.foldl_cons, h]
        rcases Int.le_total k a with h2 | h2
        · exact .inl (by rw [Int.min_eq_left h2])
        · exact .inr (by rw [Int.min_eq_right h2]; exact List.mem_cons_self)
      · exact .inr (List.mem_cons_of_mem _ h)
  have up : ∀ (ks : List Int) (k : Int), ks.foldl min k ≤ k ∧ ∀ y ∈ ks, ks.foldl min k ≤ y := by
    intro ks
    induction ks with
    | nil => intro k; exact ⟨Int.le_refl _, fun _ h => by cases h⟩
    | cons a ks ih =>
      intro k
      obtain ⟨h1, h2⟩ := ih (min k a)
      refine ⟨Int.le_trans h1 (Int.min_le_left _ _), fun y hy => ?_⟩
      rcases List.mem_cons.mp hy with rfl | hy
      · exact Int.le_trans h1 (Int.min_le_right _ _)
      · exact h2 y hy
  intro ks m hm hle
  cases ks with
  | nil => cases hm
  | cons k ks =>
    show ks.foldl min k = m
    obtain ⟨u1, u2⟩ := up ks k
    have h1 : ks.foldl min k ≤ m := by
      rcases List.mem_cons.mp hm with rfl | hm
      · exact u1
      · exact u2 m hm
    have h2 : m ≤ ks.foldl min k := by
      rcases key ks k with h | h
      · rw [h]; exact hle k List.mem_cons_self
      · exact hle _ (List.mem_cons_of_mem _ h)
    omega
theorem callMax (hc : X.calm = true) (hK : X.K = G.K) : CallR X (.builtin "max") (rC G maxD) := by
  refine CallR.imp (CallR.or (call_max2 hc) (cr_max hc)) ?_
  rintro vs H Q ⟨S, B, W, m, μ, σ, ds, R, t, P⟩
  unfold maxD at P
  split at P
  · obtain ⟨v, rfl, r⟩ := t.one
    obtain ⟨a, ks, rfl, hh, P⟩ := overL2 R r P
    obtain ⟨hk, P⟩ := ifR P id
    exact .inr ⟨a, ks, rfl, .inl hh, List.length_pos_iff.mpr hk, fun m hm hle => by rw [← maxL_is hm hle]; exact P.val R (.int _)⟩
  · split at P
    · rename_i h1 h2
      rw [ofI_eq h1, ofI_eq h2] at t
      obtain ⟨v, w, rfl, r1, r2⟩ := t.two
      cases r1
      cases r2
      exact .inl ⟨_, _, rfl, P.val R (.int _)⟩
    · exact False.elim P
  · exact False.elim P
theorem callMin (hc : X.calm = true) (hK : X.K = G.K) : CallR X (.builtin "min") (rC G minD) := by
  refine CallR.imp (CallR.or (call_min2 hc) (cr_min hc)) ?_
  rintro vs H Q ⟨S, B, W, m, μ, σ, ds, R, t, P⟩
  unfold minD at P
  split at P
  · obtain ⟨v, rfl, r⟩ := t.one
    obtain ⟨a, ks, rfl, hh, P⟩ := overL2 R r P
    obtain ⟨hk, P⟩ := ifR P id
    exact .inr ⟨a, ks, rfl, .inl hh, List.length_pos_iff.mpr hk, fun m hm hle => by rw [← minL_is hm hle]; exact P.val R (.int _)⟩
  · split at P
    · rename_i h1 h2
      rw [ofI_eq h1, ofI_eq h2] at t
      obtain ⟨v, w, rfl, r1, r2⟩ := t.two
      cases r1
      cases r2
      exact .inl ⟨_, _, rfl, P.val R (.int _)⟩
    · exact False.elim P
  · exact False.elim P
theorem sortL_is {ks ns : List Int} (h1 : ns.Perm ks) (h2 : ns.Pairwise (· ≤ ·)) : ns = sortL ks := by
  have p : (sortL ks).Pairwise (· ≤ ·) := by
    have := List.pairwise_mergeSort (le := fun a b : Int => decide (a ≤ b)) (fun a b c h1 h2 => by simp only [decide_eq_true_eq] at *; omega) (fun a b => by simp only [Bool.or_eq_true, decide_eq_true_eq]; omega) ks
    exact this.imp fun h => by simpa using h
  exact List.Perm.eq_of_pairwise (le := (· ≤ ·)) (fun a b _ _ h1 h2 => by omega) h2 p (h1.trans (List.mergeSort_perm ks _).symm)
theorem rvs_ints {A : AP_} {m : List Addr} {H : Hp} : ∀ {ks : List Int}, RVs G A m H (ks.map V.int) (ks.map D.int)
  | [] => .nil
  | k :: ks => .cons (.int k) rvs_ints
theorem callSorted (hK : X.K = G.K) : CallR X (.builtin "sorted") (rC G sortD) := by
  refine CallR.imp cr_sorted ?_
  rintro vs H Q ⟨S, B, W, m, μ, σ, ds, R, t, P⟩
  unfold sortD at P
  split at P
  · obtain ⟨v, rfl, r⟩ := t.one
    obtain ⟨a, ks, rfl, hh, P⟩ := overL2 R r P
    obtain ⟨hk, P⟩ := ifR P id
    refine ⟨a, ks, rfl, .inl hh, hk, fun ns p h1 h2 hp => ?_⟩
    rw [sortL_is h1 h2]
    exact P.newL R rvs_ints hp
  · exact False.elim P
theorem isaT_ok {K : PySem.W.Frag} {t n : String} {k : Bool} (ht : t ∈ ["NoneType", "bool", "int", "str", "list", "tuple", "dict"]) (h : isaT t n = some k) : PySem.W.kitOne K (.type t) (.type n) = some k := by
  unfold isaT at h
  split at h
  · rename_i hn
    have hn : n ∈ ["int", "bool", "list", "str", "tuple"] := by simpa using hn
    have tab : ∀ t ∈ ["NoneType", "bool", "int", "str", "list", "tuple", "dict"], ∀ n ∈ ["int", "bool", "list", "str", "tuple"], kitB t n = some (t == n || (t == "bool" && n == "int")) := by decide +kernel
    exact kit_ty ((tab t ht n hn).trans h)
  · cases h
theorem ty_at {S : AP_} {B : Nat → Prop} {m : List Addr} {μ : Sto} {H : Hp} {v : V} {d : D} {t : String} (R : Rep G S B m μ H) (r : RV G (av S m) m H v d) (h : tyD μ d = some t) :
    TyX G.K H v (.type t) ∧ t ∈ ["NoneType", "bool", "int", "str", "list", "tuple", "dict"] := by
  cases r with
  | non => cases h; exact ⟨.base .non, by decide⟩
  | bl b => cases h; exact ⟨.base (.bl b), by decide⟩
  | int b => cases h; exact ⟨.base (.int b), by decide⟩
  | str b => cases h; exact ⟨.base (.str b), by decide⟩
  | lst h1 n1 t1 =>
    cases h
    rcases h1 with h1 | ⟨o, h1⟩
    · exact ⟨.base (.lst h1), by decide⟩
    · exact ⟨.base (.frz h1), by decide⟩
  | tup h1 n1 t1 => cases h; exact ⟨.base (.tup h1), by decide⟩
  | scr h1 =>
    cases h
    rcases h1 with ⟨h1 | ⟨o, h1⟩, _⟩ | ⟨o, its, n, h1, h2, _⟩
    · exact ⟨.base (.lst h1), by decide⟩
    · exact ⟨.base (.frz h1), by decide⟩
    · exact ⟨.kList h1 h2, by decide⟩
  | @cell l a hm =>
    have h' : (match μ[l]? with | some (C.lst _) => some "list" | some (C.dct _) => some "dict" | _ => none) = some t := h
    split at h'
    · rename_i q
      cases h'
      obtain ⟨vs, e, _⟩ := R.at_ l a _ hm q
      exact ⟨.base (.lst e), by decide⟩
    · rename_i q
      cases h'
      obtain ⟨vs, e, _⟩ := R.at_ l a _ hm q
      exact ⟨.base (.dK e), by decide⟩
    · cases h'
  | _ => cases h
theorem callIsin (hK : X.K = G.K) : CallR X (.builtin "isinstance") (rC G isinD) := by
  refine CallR.imp call_isi ?_
  rintro vs H Q ⟨S, B, W, m, μ, σ, ds, R, t, P⟩
  unfold isinD at P
  split at P
  · rename_i d e
    split at P
    · rename_i n
      obtain ⟨v, w, rfl, r1, r2⟩ := t.two
      cases r2
      cases h : tyD μ d with
      | none => rw [h] at P; exact False.elim P
      | some ty =>
        rw [h] at P
        have P : PostE G S B W m H σ Q (sh ((isaT ty n).map .bl) μ) := P
        cases h2 : isaT ty n with
        | none => rw [h2] at P; exact False.elim P
        | some k =>
          rw [h2] at P
          obtain ⟨tx, hm⟩ := ty_at R r1 h
          rw [← hK] at tx
          exact ⟨v, .ty n, .type ty, .type n, k, rfl, .ty n, tx, isaT_ok hm h2, P.val R (.bl _)⟩
    · exact False.elim P
  · exact False.elim P

/-! ### what changes a cell -/
theorem put_lev {S : AP_} {B : Nat → Prop} {m : List Addr} {μ : Sto} {H : Hp} {b l : Nat} {d : D} (hB : ∀ x, B x → x ≤ b) (h : mayPut b l d = true) : ∀ x, B x → l < x → below x d := fun x hx hl => by
  unfold mayPut at h
  rw [Bool.or_eq_true] at h
  rcases h with h | h
  · have := of_decide_eq_true h
    have := hB x hx
    omega
  · exact below_noRef 9 d h
theorem PostE.put {S : AP_} {B : Nat → Prop} {W : L2.WX} {m : List Addr} {μ : Sto} {H : Hp} {σ : L2.St} {Q : VK} {l : Nat} {a : Addr} {v : V} {d : D} {vs : List V} {ds : List D} (R : Rep G S B m μ H) (hm : m[l]? = some a) (t : RVs G (av S m) m H vs ds)
    (hb : ∀ x, B x → l < x → belowL x ds) (r : RV G (av S m) m H v d) (P : PostE G S B W m H σ Q (.ok (d, 0) (μ.set l (.lst ds)))) : Q v (upd H a (.lst vs)) := by
  have E : Evo m H m (upd H a (.lst vs)) := Evo.put (List.mem_of_getElem? hm)
  have R' := R.put hm (c := .lst ds) ⟨vs, upd_same, t.evo E⟩ hb
  exact P v _ m E R' (r.evo E) (.zero R' (r.evo E))
def rM (G : Gb) (f : Nat → List D → List D → Sto → R (D × Nat)) : V → List V → Hp → VK → Prop := fun x vs H Q => ∃ S B W m μ σ l xs ds, Rep G S B m μ H ∧ RV G (av S m) m H x (.cell l) ∧ μ[l]? = some (.lst xs) ∧ RVs G (av S m) m H vs ds ∧ PostE G S B W m H σ Q (f l xs ds μ)
theorem MtR.imp {id : String} {r r' : V → List V → Hp → VK → Prop} (h : MtR X id r) (k : ∀ x vs H Q, r' x vs H Q → r x vs H Q) : MtR X id r' := fun pins s σ H x xs v us Q I rx rs q => h pins s σ H x xs v us Q I rx rs (k _ _ _ _ q)
theorem lev_items {S : AP_} {B : Nat → Prop} {m : List Addr} {μ : Sto} {H : Hp} {l : Nat} {xs : List D} (R : Rep G S B m μ H) (h : μ[l]? = some (.lst xs)) : ∀ x, B x → l < x → belowL x xs := fun x hx hl => (R.lev x hx).2 l _ hl h
theorem mtAppend {b : Nat} : MtR X "list.append" (fun x vs H Q => ∃ (S : AP_) (B : Nat → Prop) (W : L2.WX) (m : List Addr) (μ : Sto) (σ : L2.St) (l : Nat) (xs ds : List D), (∀ x, B x → x ≤ b) ∧ Rep G S B m μ H ∧ RV G (av S m) m H x (.cell l) ∧ μ[l]? = some (.lst xs) ∧ RVs G (av S m) m H vs ds ∧ PostE G S B W m H σ Q (appendD b l xs ds μ)) := by
  refine MtR.imp mt_append ?_
  rintro x vs H Q ⟨S, B, W, m, μ, σ, l, xs, ds, hB, R, r, hl, t, P⟩
  unfold appendD at P
  split at P
  · rename_i d
    obtain ⟨v, rfl, rv⟩ := t.one
    obtain ⟨⟨hz, hp⟩, P⟩ := ifR P id
    cases r with
    | cell hm =>
      obtain ⟨ws, e, tt⟩ := R.at_ l _ _ hm hl
      refine ⟨_, ws, v, rfl, rfl, e, by rw [tt.length]; exact hz, PostE.put R hm (tt.append (.cons rv .nil)) (fun x hx hlx => ?_) .non P⟩
      rw [belowL_iff]
      intro y hy
      rcases List.mem_append.mp hy with hy | hy
      · exact belowL_iff.mp (lev_items R hl x hx hlx) y hy
      · rw [List.mem_singleton.mp hy]; exact put_lev (S := S) (m := m) (μ := μ) (H := H) hB hp x hx hlx
  · exact False.elim P
theorem mtPop {b : Nat} : MtR X "list.pop" (fun x vs H Q => ∃ (S : AP_) (B : Nat → Prop) (W : L2.WX) (m : List Addr) (μ : Sto) (σ : L2.St) (l : Nat) (xs ds : List D), (∀ x, B x → x ≤ b) ∧ Rep G S B m μ H ∧ RV G (av S m) m H x (.cell l) ∧ μ[l]? = some (.lst xs) ∧ RVs G (av S m) m H vs ds ∧ PostE G S B W m H σ Q (popD b l xs ds μ)) := by
  refine MtR.imp (MtR.or mt_pop mt_popAt) ?_
  rintro x vs H Q ⟨S, B, W, m, μ, σ, l, xs, ds, hB, R, r, hl, t, P⟩
  unfold popD at P
  cases r with
  | cell hm =>
    obtain ⟨ws, e, tt⟩ := R.at_ l _ _ hm hl
    split at P
    · cases t
      split at P
      · rename_i y hy
        obtain ⟨w, e1, r1⟩ := tt.get hy
        refine .inl ⟨_, ws, w, rfl, rfl, e, by rw [tt.length]; exact e1, PostE.put R hm tt.dropLast (fun x hx hlx => ?_) r1 P⟩
        exact belowL_iff.mpr fun y hy => belowL_iff.mp (lev_items R hl x hx hlx) y (List.dropLast_subset _ hy)
      · exact False.elim P
    · obtain ⟨v, rfl, rv⟩ := t.one
      split at P
      · split at P
        · rename_i i k hk
          split at P
          · rename_i y hy
            obtain ⟨⟨h1, h2⟩, P⟩ := ifR P id
            obtain ⟨w, e1, r1⟩ := tt.get hy
            cases rv
            refine .inr ⟨_, ws, _, k, w, rfl, rfl, e, h1, h2, by rw [tt.length]; exact (ixN_seq hk).1, e1, PostE.put R hm (tt.eraseIdx k) (fun x hx hlx => ?_) r1 P⟩
            exact belowL_iff.mpr fun y hy => belowL_iff.mp (lev_items R hl x hx hlx) y (List.mem_of_mem_eraseIdx hy)
          · exact False.elim P
        · exact False.elim P
      · exact False.elim P
    · exact False.elim P
/-- xs.extend(ys) -/
theorem mt_extendR : MtR X "list.extend" (fun x vs H Q => ∃ l b xs zs, x = .ref l ∧ vs = [.ref b] ∧ H l = some (.lst xs) ∧ Rd H b (.lst zs) ∧ xs.length + zs.length ≤ sizeLine ∧ Q .non (upd H l (.lst (xs ++ zs)))) := by
  intro pins s σ H x vs v us Q I rx rv h
  obtain ⟨l, b, xs, zs, rfl, rfl, hH, hB, hz, q⟩ := h
  cases rx
  obtain ⟨u, rfl, ru⟩ := rv.one
  cases ru
  obtain ⟨z, its, n, r, hl, e⟩ := I.lstM hH
  obtain ⟨z2, its2, n2, r2, e2⟩ := hB.ok I.hok
  have hl2 := r2.length
  have hsz : its.toArray.size + its2.toArray.size ≤ sizeLine := by rw [List.size_toArray, List.size_toArray]; omega
  have hlong : ¬ (!its.toArray.isEmpty && Builtin.List.listTooLong (its.toArray.size + its2.toArray.size)) = true := by
    rw [notLongL hsz, Bool.and_false]
    exact Bool.false_ne_true
  refine call_meets PySem.F.slot_list_extend ⟨_, e, rfl⟩ PySem.F.entry_list_extend (PySem.F.args_list_extend_2 _ _)
    (AutoSeq1.list_extend_list_list_0 l its.toArray n b its2.toArray n2 hlong (by rw [List.size_toArray]; omega) (by omega)) ⟨e, e2, ?_⟩
  refine ⟨.non, _, I.lset (its' := its ++ its2) hH e (by simp) (r.append r2) ?_, rfl, q⟩
  rw [List.length_append]
  omega
theorem mtExtend {b : Nat} : MtR X "list.extend" (fun x vs H Q => ∃ (S : AP_) (B : Nat → Prop) (W : L2.WX) (m : List Addr) (μ : Sto) (σ : L2.St) (l : Nat) (xs ds : List D), (∀ x, B x → x ≤ b) ∧ Rep G S B m μ H ∧ RV G (av S m) m H x (.cell l) ∧ μ[l]? = some (.lst xs) ∧ RVs G (av S m) m H vs ds ∧ PostE G S B W m H σ Q (extendD b l xs ds μ)) := by
  refine MtR.imp mt_extendR ?_
  rintro x vs H Q ⟨S, B, W, m, μ, σ, l, xs, ds, hB, R, r, hl, t, P⟩
  unfold extendD at P
  split at P
  · obtain ⟨v, rfl, rv⟩ := t.one
    split at P
    · obtain ⟨⟨hz, hp⟩, P⟩ := ifR P id
      cases rv with
      | @lst a vs ds hh nn ts =>
        cases r with
        | cell hm =>
          obtain ⟨ws, e, tt⟩ := R.at_ l _ _ hm hl
          refine ⟨_, _, ws, vs, rfl, rfl, e, hh, by rw [tt.length, ts.length]; exact hz, PostE.put R hm (tt.append ts) (fun x hx hlx => ?_) .non P⟩
          rw [belowL_iff]
          intro y hy
          rcases List.mem_append.mp hy with hy | hy
          · exact belowL_iff.mp (lev_items R hl x hx hlx) y hy
          · exact put_lev (S := S) (m := m) (μ := μ) (H := H) hB (List.all_eq_true.mp hp y hy) x hx hlx
    · exact False.elim P
  · exact False.elim P
theorem mtInsert {b : Nat} : MtR X "list.insert" (fun x vs H Q => ∃ (S : AP_) (B : Nat → Prop) (W : L2.WX) (m : List Addr) (μ : Sto) (σ : L2.St) (l : Nat) (xs ds : List D), (∀ x, B x → x ≤ b) ∧ Rep G S B m μ H ∧ RV G (av S m) m H x (.cell l) ∧ μ[l]? = some (.lst xs) ∧ RVs G (av S m) m H vs ds ∧ PostE G S B W m H σ Q (insertD b l xs ds μ)) := by
  refine MtR.imp mt_insert ?_
  rintro x vs H Q ⟨S, B, W, m, μ, σ, l, xs, ds, hB, R, r, hl, t, P⟩
  unfold insertD at P
  split at P
  · rename_i e0 d
    obtain ⟨v, w, rfl, r1, r2⟩ := t.two
    split at P
    · obtain ⟨⟨⟨hz, h0, h1⟩, hp⟩, P⟩ := ifR P id
      cases r1
      cases r with
      | cell hm =>
        obtain ⟨ws, e, tt⟩ := R.at_ l _ _ hm hl
        refine ⟨_, ws, _, w, rfl, rfl, e, by rw [tt.length]; exact hz, h0, h1, PostE.put R hm (((tt.take _).append (.cons r2 .nil)).append (tt.drop _)) (fun x hx hlx => ?_) .non P⟩
        rw [belowL_iff]
        intro y hy
        rcases List.mem_append.mp hy with hy | hy
        · rcases List.mem_append.mp hy with hy | hy
          · exact belowL_iff.mp (lev_items R hl x hx hlx) y (List.mem_of_mem_take hy)
          · rw [List.mem_singleton.mp hy]; exact put_lev (S := S) (m := m) (μ := μ) (H := H) hB hp x hx hlx
        · exact belowL_iff.mp (lev_items R hl x hx hlx) y (List.mem_of_mem_drop hy)
    · exact False.elim P
  · exact False.elim P
theorem mtClear {b : Nat} : MtR X "list.clear" (fun x vs H Q => ∃ (S : AP_) (B : Nat → Prop) (W : L2.WX) (m : List Addr) (μ : Sto) (σ : L2.St) (l : Nat) (xs ds : List D), (∀ x, B x → x ≤ b) ∧ Rep G S B m μ H ∧ RV G (av S m) m H x (.cell l) ∧ μ[l]? = some (.lst xs) ∧ RVs G (av S m) m H vs ds ∧ PostE G S B W m H σ Q (clearD b l xs ds μ)) := by
  refine MtR.imp mt_clear ?_
  rintro x vs H Q ⟨S, B, W, m, μ, σ, l, xs, ds, hB, R, r, hl, t, P⟩
  unfold clearD at P
  split at P
  · cases t
    cases r with
    | cell hm =>
      obtain ⟨ws, e, tt⟩ := R.at_ l _ _ hm hl
      exact ⟨_, ws, rfl, rfl, e, PostE.put R hm .nil (fun x hx hlx => by trivial) .non P⟩
  · exact False.elim P
end
end VM

set_option Elab.async false
set_option maxRecDepth 100000
set_option autoImplicit false
set_option linter.unusedVariables false
/-! str of things -/
namespace VM
open PySem PySem.Spec PyProof.Rows L2
section
variable {X : Cx} {G : Gb}
theorem callStr : CallR X (.type "str") (rC G strD) := by
  intro pins s σ H xs us Q I rs h
  obtain ⟨S, B, W, m, μ, σ', ds, R, t, P⟩ := h
  unfold strD at P
  split at P
  · rename_i d
    obtain ⟨v, rfl, r⟩ := t.one
    obtain ⟨u, rfl, r1⟩ := vals1 rs
    cases r with
    | int i =>
      obtain ⟨tk, rfl⟩ := r1
      obtain ⟨hz, P⟩ := ifR P id
      exact PySem.P.str_of_int hz ⟨.str _, H, I.tok _, ⟨_, rfl⟩, P.val R (.str _)⟩
    | str x =>
      obtain ⟨tk, rfl⟩ := r1
      exact PySem.P.str_of_str ⟨.str _, H, I, ⟨_, rfl⟩, P.val R (.str _)⟩
    | bl k =>
      cases r1
      exact PySem.P.str_of_bool ⟨.str _, H, I.tok _, ⟨_, rfl⟩, P.val R (.str _)⟩
    | non =>
      cases r1
      exact PySem.P.str_of_none ⟨.str _, H, I.tok _, ⟨_, rfl⟩, P.val R (.str _)⟩
    | _ => exact False.elim P
  · exact False.elim P
theorem mapM_all {α β : Type} {f : α → Option β} {P : β → Prop} (h : ∀ x y, f x = some y → P y) : ∀ {xs : List α} {ys : List β}, xs.mapM f = some ys → ∀ y ∈ ys, P y
  | [], ys, e => by rw [mapM_nil e]; intro y hy; cases hy
  | x :: xs, ys, e => by
    obtain ⟨y, zs, h1, h2, rfl⟩ := mapM_cons e
    intro z hz
    rcases List.mem_cons.mp hz with rfl | hz
    · exact h _ _ h1
    · exact mapM_all h h2 z hz
theorem depthAll_le {n : Nat} : ∀ {xs : List PyData}, (∀ x ∈ xs, x.depth ≤ n) → PyData.depthAll xs ≤ n
  | [], _ => by simp [PyData.depthAll]
  | x :: xs, h => by
    unfold PyData.depthAll
    exact Nat.max_le.mpr ⟨h x List.mem_cons_self, depthAll_le fun y hy => h y (List.mem_cons_of_mem _ hy)⟩
theorem py_depth {μ : Sto} : ∀ (n : Nat) (d : D) (p : PyData), toPy μ n d = some p → p.depth ≤ n ∧ p.hasDict = false
  | 0, _, _, h => by cases h
  | n + 1, d, p, h => by
    have ih := py_depth (μ := μ) n
    have lists : ∀ {xs : List D} {ys : List PyData}, xs.mapM (toPy μ n) = some ys → (PyData.depthAll ys ≤ n) ∧ PyData.hasDictAll ys = false := by
      intro xs ys e
      have a := mapM_all (P := fun p => p.depth ≤ n ∧ p.hasDict = false) ih e
      refine ⟨depthAll_le fun y hy => (a y hy).1, ?_⟩
      clear e
      induction ys with
      | nil => simp [PyData.hasDictAll]
      | cons y ys ih2 =>
        unfold PyData.hasDictAll
        rw [(a y List.mem_cons_self).2, ih2 fun z hz => a z (List.mem_cons_of_mem _ hz)]; rfl
    have zints : ∀ ns : List Int, PyData.depthAll (ns.map PyData.int) ≤ n ∧ PyData.hasDictAll (ns.map PyData.int) = false := by
      intro ns
      induction ns with
      | nil => simp [PyData.depthAll, PyData.hasDictAll]
      | cons y ys ih2 => simp [PyData.depthAll, PyData.hasDictAll, PyData.depth, PyData.hasDict, ih2.2]; exact ih2.1
    cases d with
    | non => cases h; simp [PyData.depth, PyData.hasDict]
    | bl b => cases h; simp [PyData.depth, PyData.hasDict]
    | int i => cases h; simp [PyData.depth, PyData.hasDict]
    | str i => cases h; simp [PyData.depth, PyData.hasDict]
    | lst xs =>
      obtain ⟨ys, h1, rfl⟩ := map_some h
      have := lists h1
      simp [PyData.depth, PyData.hasDict, this]
    | tup xs =>
      obtain ⟨ys, h1, rfl⟩ := map_some h
      have := lists h1
      simp [PyData.depth, PyData.hasDict, this]
    | cell l =>
      have h : (match μ[l]? with | some (C.lst xs) => (xs.mapM (toPy μ n)).map PyData.list | _ => none) = some p := h
      split at h
      · obtain ⟨ys, h1, rfl⟩ := map_some h
        have := lists h1
        simp [PyData.depth, PyData.hasDict, this]
      · cases h
    | scr ns =>
      cases h
      have := zints ns
      simp [PyData.depth, PyData.hasDict, this]
    | ty n => cases h
    | fn x => cases h
theorem callStrA (hK : X.K = G.K) (hg : X.A.guards = some []) (hu : X.A.units + 64 < cLine) : CallR X (.type "str") (rC G strA) := by
  intro pins s σ H xs us Q I rs h
  obtain ⟨S, B, W, m, μ, σ', ds, R, t, P⟩ := h
  unfold strA at P
  split at P
  · rename_i d
    have main : ∀ p : PyData, toPy μ 9 d = some p → (∃ xs, p = .list xs ∨ p = .tuple xs) → PostE G S B W m H σ' Q (if p.showable = true ∧ p.shown.length ≤ sizeLine then .ok (.str p.shown, 0) μ else .bad) → wpAny (model X.prog X.w) X.A (call (.type "str") us) (EP X pins σ Q) X.xe s := by
      intro p hp hsh P
      obtain ⟨⟨h1, h2⟩, P⟩ := ifR P id
      obtain ⟨v, rfl, r⟩ := t.one
      obtain ⟨u, rfl, r1⟩ := vals1 rs
      have D := dp_of R 9 d v p hp r
      rw [← hK] at D
      obtain ⟨as, rd⟩ := Dp.reads I p v u D r1
      obtain ⟨hd, hnd⟩ := py_depth 9 d p hp
      have isr : ∃ a, u = .ref a := by
        obtain ⟨ys, e | e⟩ := hsh
        · subst e; cases rd; exact ⟨_, rfl⟩
        · subst e; cases rd; exact ⟨_, rfl⟩
      obtain ⟨a, rfl⟩ := isr
      refine str_of_reads rd h1 (PyData.noDict_hsm hnd) hg (by omega) (fun _ _ e => e) (fun h' u tk k => ?_) h2
      exact ⟨.str _, H, (I.kept k), ⟨_, rfl⟩, P.val R (.str _)⟩
    split at P
    · rename_i xs hp
      exact main _ hp ⟨_, .inl rfl⟩ P
    · rename_i xs hp
      exact main _ hp ⟨_, .inr rfl⟩ P
    · exact callStr pins s σ H _ us Q I rs ⟨S, B, W, m, μ, σ', [d], R, t, P⟩
  · exact False.elim P
end
end VM

set_option Elab.async false
set_option maxRecDepth 100000
set_option autoImplicit false
set_option linter.unusedVariables false
namespace VM
open PySem PySem.Spec PyProof.Rows L2

structure EnvR (G : Gb) (A : AP_) (m : List Addr) (H : Hp) (σ : L2.St) (ρ : Ev) : Prop where
  len : σ.length = ρ.length
  at_ : ∀ (i : Nat) (d : D), ρ[i]? = some (some d) → ∃ v, σ[i]? = some (some v) ∧ RV G A m H v d
section
variable {G : Gb} {S : AP_} {B : Nat → Prop} {W : L2.WX} {m m' : List Addr} {μ : Sto} {H H' : Hp} {σ : L2.St} {ρ : Ev}
theorem EnvR.imp {A A' : AP_} (E : EnvR G A m H σ ρ) (h : ∀ v d, RV G A m H v d → RV G A' m' H' v d) : EnvR G A' m' H' σ ρ := ⟨E.len, fun i d e => let ⟨v, e1, r⟩ := E.at_ i d e; ⟨v, e1, h _ _ r⟩⟩
theorem EnvR.evo (E : EnvR G (av S m) m H σ ρ) (e : Evo m H m' H') : EnvR G (av S m') m' H' σ ρ := E.imp fun _ _ r => r.evo e
theorem EnvR.set {A : AP_} (E : EnvR G A m H σ ρ) {v : V} {d : D} (i : Nat) (r : RV G A m H v d) : EnvR G A m H (σ.set i (some v)) (ρ.set i (some d)) := by
  refine ⟨by simp [E.len], fun k e h => ?_⟩
  by_cases hk : i = k
  · subst hk
    by_cases hl : i < ρ.length
    · rw [List.getElem?_set_self hl] at h
      cases h
      exact ⟨v, List.getElem?_set_self (by rw [E.len]; exact hl), r⟩
    · rw [List.getElem?_eq_none (by simpa using hl)] at h; cases h
  · rw [List.getElem?_set_ne hk] at h
    rw [List.getElem?_set_ne hk]
    exact E.at_ k e h
theorem EnvR.unset {A : AP_} (E : EnvR G A m H σ ρ) (i : Nat) : EnvR G A m H (σ.set i none) (ρ.set i none) := by
  refine ⟨by simp [E.len], fun k e h => ?_⟩
  by_cases hk : i = k
  · subst hk
    by_cases hl : i < ρ.length
    · rw [List.getElem?_set_self hl] at h; cases h
    · rw [List.getElem?_eq_none (by simpa using hl)] at h; cases h
  · rw [List.getElem?_set_ne hk] at h
    rw [List.getElem?_set_ne hk]
    exact E.at_ k e h
theorem EnvR.wipe {A : AP_} (E : EnvR G A m H σ ρ) : ∀ vs : List Nat, EnvR G A m H (wipe σ vs) (wipeD ρ vs)
  | [] => E
  | v :: vs => (E.wipe vs).unset v
theorem wipe_set_in {x : Option V} : ∀ {vs : List Nat} {σ : L2.St} {i : Nat}, i ∈ vs → wipe (σ.set i x) vs = wipe σ vs
  | [], _, _, h => by simp at h
  | v :: vs, σ, i, h => by
    unfold L2.wipe
    by_cases hi : i ∈ vs
    · rw [wipe_set_in hi]
    · have e : i = v := by simpa [hi] using h
      subst e
      have comm : ∀ (vs : List Nat) (σ : L2.St), (L2.wipe (σ.set i x) vs).set i none = (L2.wipe σ vs).set i none := by
        intro vs
        induction vs with
        | nil => intro σ; unfold L2.wipe; rw [List.set_set]
        | cons w ws ih =>
          intro σ
          unfold L2.wipe
          by_cases hw : w = i
          · subst hw; rw [List.set_set, List.set_set, ih]
          · rw [List.set_comm _ _ hw, ih, List.set_comm _ _ hw]
      exact comm vs σ

/-! ### what is walked -/
inductive LR (G : Gb) (S : AP_) (m : List Addr) (H : Hp) : Src → Addr → Prop
  | data {a : Addr} {vs : List V} {xs : List D} : Rd H a (.lst vs) → ¬ av S m a → RVs G (av S m) m H vs xs → LR G S m H (.data xs) a
  | cell {l : Nat} {a : Addr} : m[l]? = some a → LR G S m H (.cell l) a
  | scr {a : Addr} {ns : List Int} : (Rd H a (.lst (ns.map .int)) ∧ ¬ av S m a ∨ KL G.K a (ns.map .int)) → LR G S m H (.data (ns.map .int)) a
inductive SR (K : PySem.W.Frag) (G : Gb) (S : AP_) (m : List Addr) (H : Hp) : Src → L2.It → Prop
  | lst {s : Src} {a : Addr} : LR G S m H s a → SR K G S m H s (Itl K a)
  | tup {a : Addr} {vs : List V} {xs : List D} : H a = some (.tup vs) → ¬ av S m a → RVs G (av S m) m H vs xs → SR K G S m H (.data xs) (Itt K a)
  | rng (lo : Int) (n : Nat) : SR K G S m H (.data (rangeD lo n)) (Itr lo n)
  | zip {s t : Src} {a b : Addr} : LR G S m H s a → LR G S m H t b → SR K G S m H (.zip s t) (Itz K a b)
  | enum {s : Src} {a : Addr} : LR G S m H s a → SR K G S m H (.enum s) (Ite K a)
theorem LR.imp {S' : AP_} {s : Src} {a : Addr} (r : LR G S m H s a) (hm : ∀ (l : Nat) (a : Addr), m[l]? = some a → m'[l]? = some a) (hk : ∀ a o, H a = some o → ¬ av S m a → H' a = some o ∧ ¬ av S' m' a) : LR G S' m' H' s a := by
  cases r with
  | data h n t =>
    rcases h with h | ⟨o, h⟩
    · exact .data (.inl (hk _ _ h n).1) (hk _ _ h n).2 (t.imp hm hk)
    · exact .data (.inr ⟨o, (hk _ _ h n).1⟩) (hk _ _ h n).2 (t.imp hm hk)
  | cell h => exact .cell (hm _ _ h)
  | scr h =>
    rcases h with ⟨r | ⟨o, r⟩, n⟩ | h
    · exact .scr (.inl ⟨.inl (hk _ _ r n).1, (hk _ _ r n).2⟩)
    · exact .scr (.inl ⟨.inr ⟨o, (hk _ _ r n).1⟩, (hk _ _ r n).2⟩)
    · exact .scr (.inr h)
theorem SR.imp {K : PySem.W.Frag} {S' : AP_} {s : Src} {J : L2.It} (r : SR K G S m H s J) (hm : ∀ (l : Nat) (a : Addr), m[l]? = some a → m'[l]? = some a) (hk : ∀ a o, H a = some o → ¬ av S m a → H' a = some o ∧ ¬ av S' m' a) : SR K G S' m' H' s J := by
  cases r with
  | lst r => exact .lst (r.imp hm hk)
  | tup h n t => exact .tup (hk _ _ h n).1 (hk _ _ h n).2 (t.imp hm hk)
  | rng lo n => exact .rng lo n
  | zip r q => exact .zip (r.imp hm hk) (q.imp hm hk)
  | enum r => exact .enum (r.imp hm hk)
theorem evo_hk (e : Evo m H m' H') : ∀ a o, H a = some o → ¬ av S m a → H' a = some o ∧ ¬ av S m' a := fun a o h n =>
  ⟨(e.keep a o h fun z => n (.inr z)).1, fun z => z.elim (fun z => n (.inl z)) (e.keep a o h fun z => n (.inr z)).2⟩
theorem LR.at_ {s : Src} {a : Addr} (R : Rep G S B m μ H) (r : LR G S m H s a) (i : Nat) : s.at μ i = .bad ∨ ∃ vs, SqL G.K H a vs ∧ ((vs.length ≤ i ∧ s.at μ i = .done) ∨ ∃ v d, s.at μ i = .item d ∧ vs[i]? = some v ∧ RV G (av S m) m H v d) := by
  have fin : ∀ {vs : List V} {xs : List D}, RVs G (av S m) m H vs xs → (vs.length ≤ i ∧ nxO xs[i]? = .done) ∨ ∃ v d, nxO xs[i]? = .item d ∧ vs[i]? = some v ∧ RV G (av S m) m H v d := by
    intro vs xs t
    cases e : xs[i]? with
    | some d => obtain ⟨v, e1, r1⟩ := t.get e; exact .inr ⟨v, d, rfl, e1, r1⟩
    | none => exact .inl ⟨by rw [t.length]; exact List.getElem?_eq_none_iff.mp e, rfl⟩
  cases r with
  | @data a vs xs h n t => exact .inr ⟨vs, .inl h, fin t⟩
  | @scr a ns h => exact .inr ⟨ns.map .int, h.elim (fun z => .inl z.1) .inr, fin (.ofInts ns)⟩
  | @cell l a h =>
    have hl : l < μ.length := by rw [← R.len]; exact (List.getElem?_eq_some_iff.mp h).1
    have hc := R.at_ l a _ h (List.getElem?_eq_getElem hl)
    have e1 : μ[l]? = some μ[l] := List.getElem?_eq_getElem hl
    cases q : μ[l] with
    | lst xs =>
      rw [q] at hc e1
      obtain ⟨vs, e, t⟩ := hc
      refine .inr ⟨vs, .of e, ?_⟩
      have e2 : (Src.cell l).at μ i = nxO xs[i]? := by unfold Src.at; rw [e1]
      rw [e2]
      exact fin t
    | dct kvs => left; unfold Src.at; rw [e1, q]
    | ins c fs => left; unfold Src.at; rw [e1, q]
/-- one turn: it stops, or yields -/
theorem SR.turn {s : Src} {J : L2.It} (R : Rep G S B m μ H) (r : SR G.K G S m H s J) (i : Nat) :
    s.at μ i = .bad ∨ (s.at μ i = .done ∧ J.stop i H) ∨ ∃ d, s.at μ i = .item d ∧ J.go i H ∧ ∀ x H', J.yld i H x H' → Same H H' ∧ RV G (av S m) m H' x d := by
  cases r with
  | lst r =>
    rcases r.at_ R i with h | ⟨vs, h, ⟨h1, h2⟩ | ⟨v, d, h1, h2, h3⟩⟩
    · exact .inl h
    · exact .inr (.inl ⟨h2, vs, h, h1⟩)
    · refine .inr (.inr ⟨d, h1, ⟨vs, v, h, h2⟩, fun x H' y => ?_⟩)
      obtain ⟨e, y⟩ := y
      subst e
      have := y vs h
      rw [h2] at this
      cases this
      exact ⟨Same.refl _, h3⟩
  | @tup a vs xs h n t =>
    show nxO xs[i]? = _ ∨ _
    cases e : xs[i]? with
    | none => exact .inr (.inl ⟨by show nxO xs[i]? = _; rw [e]; rfl, vs, .of h, by rw [t.length]; exact List.getElem?_eq_none_iff.mp e⟩)
    | some d =>
      obtain ⟨v, e1, r1⟩ := t.get e
      refine .inr (.inr ⟨d, by show nxO xs[i]? = _; rw [e]; rfl, ⟨vs, v, .of h, e1⟩, fun x H' y => ?_⟩)
      obtain ⟨e', y⟩ := y
      subst e'
      have := y vs (.of h)
      rw [e1] at this
      cases this
      exact ⟨Same.refl _, r1⟩
  | rng lo n =>
    have e : (Src.data (rangeD lo n)).at μ i = nxO (rangeD lo n)[i]? := rfl
    rw [e]
    by_cases hi : i < n
    · have e1 : (rangeD lo n)[i]? = some (.int (lo + (i : Nat))) := by simp [rangeD, hi]
      rw [e1]
      refine .inr (.inr ⟨_, rfl, hi, fun x H' y => ?_⟩)
      obtain ⟨e', y⟩ := y
      subst e' y
      exact ⟨Same.refl _, .int _⟩
    · have e1 : (rangeD lo n)[i]? = none := by simp [rangeD]; omega
      rw [e1]
      exact .inr (.inl ⟨rfl, Nat.le_of_not_lt hi⟩)
  | @zip s t a b r q =>
    have e : (Src.zip s t).at μ i = nxZ (s.at μ i) (t.at μ i) := rfl
    rw [e]
    rcases r.at_ R i with h | ⟨vs, h, h'⟩
    · rw [h]; left; cases t.at μ i <;> rfl
    · rcases q.at_ R i with g | ⟨ws, g, g'⟩
      · rw [g]; left; cases s.at μ i <;> rfl
      · rcases h' with ⟨h1, h2⟩ | ⟨v, d, h1, h2, h3⟩
        · refine .inr (.inl ⟨?_, vs, ws, h, g, .inl h1⟩)
          rw [h2]
          rcases g' with ⟨_, g2⟩ | ⟨_, _, g2, _⟩ <;> rw [g2] <;> rfl
        · rcases g' with ⟨g1, g2⟩ | ⟨w, e, g1, g2, g3⟩
          · exact .inr (.inl ⟨by rw [h1, g2]; rfl, vs, ws, h, g, .inr g1⟩)
          · refine .inr (.inr ⟨_, by rw [h1, g1]; rfl, ⟨vs, ws, v, w, h, g, h2, g2⟩, fun x H' y => ?_⟩)
            obtain ⟨T, x', y', rfl, hT', rfl, y1, y2⟩ := y
            have e1 := y1 vs h
            have e2 := y2 ws g
            rw [h2] at e1
            rw [g2] at e2
            cases e1
            cases e2
            have k := same_new (o := HO.tup [v, w]) hT'
            exact ⟨k, .tup upd_same (av_new R hT') (.cons (h3.evo (Evo.grow k)) (.cons (g3.evo (Evo.grow k)) .nil))⟩
  | @enum s a r =>
    have e : (Src.enum s).at μ i = nxE i (s.at μ i) := rfl
    rw [e]
    rcases r.at_ R i with h | ⟨vs, h, ⟨h1, h2⟩ | ⟨v, d, h1, h2, h3⟩⟩
    · rw [h]; exact .inl rfl
    · exact .inr (.inl ⟨by rw [h2]; rfl, vs, h, h1⟩)
    · refine .inr (.inr ⟨_, by rw [h1]; rfl, ⟨vs, v, h, h2⟩, fun x H' y => ?_⟩)
      obtain ⟨T, x', rfl, hT', rfl, y1⟩ := y
      have e1 := y1 vs h
      rw [h2] at e1
      cases e1
      have k := same_new (o := HO.tup [.int (i : Nat), v]) hT'
      exact ⟨k, .tup upd_same (av_new R hT') (.cons (.int _) (.cons (h3.evo (Evo.grow k)) .nil))⟩

/-! ### targets that are names -/
mutual
def tgG (K : PySem.W.Frag) : Tg → L2.TG
  | .name i => gName i
  | .tup ts => gTup K (tgsLen ts) (tgsG K ts)
  | _ => fun _ _ _ _ => False
def tgsG (K : PySem.W.Frag) : Tgs → L2.TGs
  | .nil => gNil
  | .cons t ts => gCons (tgG K t) (tgsG K ts)
end
theorem bind_at {K : PySem.W.Frag} {own : List Nat} {Q : L2.St → Hp → Prop} : ∀ (n : Nat) (t : Tg) (d : D) (v : V) (σ : L2.St) (ρ ρ1 : Ev), bindL n t d ρ = some ρ1 → tgIn own t = true → RV G (av S m) m H v d → EnvR G (av S m) m H σ ρ →
    (∀ σ1, EnvR G (av S m) m H σ1 ρ1 → wipe σ1 own = wipe σ own → Q σ1 H) → tgG K t v σ H Q
  | 0, _, _, _, _, _, _, h, _, _, _, _ => by cases h
  | n + 1, .name i, d, v, σ, ρ, ρ1, h, ho, r, E, k => by
    cases h
    exact k _ (E.set i r) (wipe_set_in (by simpa [tgIn] using ho))
  | n + 1, .tup (.cons s (.cons t .nil)), d, v, σ, ρ, ρ1, h, ho, r, E, k => by
    cases r with
    | @tup a vs ds hh nn tt =>
      match ds, tt, h with
      | [], _, h => cases h
      | [_], _, h => cases h
      | _ :: _ :: _ :: _, _, h => cases h
      | [x, y], tt, h =>
        have h : (bindL n s x ρ).bind (bindL n t y) = some ρ1 := h
        cases e : bindL n s x ρ with
        | none => rw [e] at h; cases h
        | some ρ2 =>
          rw [e] at h
          have ho : (tgIn own s && (tgIn own t && true)) = true := ho
          simp only [Bool.and_true, Bool.and_eq_true] at ho
          obtain ⟨v1, v2, rfl, r1, r2⟩ := tt.two
          refine ⟨_, _, rfl, .of hh, rfl, v1, [v2], rfl, ?_⟩
          refine bind_at n s x v1 σ ρ ρ2 e ho.1 r1 E fun σ1 E1 w1 => ⟨v2, [], rfl, ?_⟩
          exact bind_at n t y v2 σ1 ρ2 ρ1 h ho.2 r2 E1 fun σ2 E2 w2 => ⟨rfl, k σ2 E2 (w2.trans w1)⟩
    | _ => cases h
  | n + 1, .bad, _, _, _, _, _, h, _, _, _, _ => by cases h
  | n + 1, .sub _ _, _, _, _, _, _, h, _, _, _, _ => by cases h
  | n + 1, .fld _ _, _, _, _, _, _, h, _, _, _, _ => by cases h
  | n + 1, .tup .nil, _, _, _, _, _, h, _, _, _, _ => by cases h
  | n + 1, .tup (.cons _ .nil), _, _, _, _, _, h, _, _, _, _ => by cases h
  | n + 1, .tup (.cons _ (.cons _ (.cons _ _))), _, _, _, _, _, h, _, _, _, _ => by cases h
end
end VM

set_option Elab.async false
set_option maxRecDepth 100000
set_option linter.unusedVariables false
/-! walks that end while an exception is handled -/
namespace VMH
open PySem PySem.Spec PyProof.Rows HotX
section
variable {prog : Program} {w : World} {A : Around} {E : Value → Shared → Prop} {s : Shared} {x1 : Addr}
theorem stop_hot {α : Type} {Q : α → Shared → Prop} (hot : HotAt A x1 s.heap)
    (hE : ∀ (g : Heap) (e : Addr), (∀ b o, s.heap.get? b = some o → g.get? b = some o) → (∃ o, g.get? e = some o ∧ o.cls = .type "StopIteration") → E (.ref e) { s with heap := g }) :
    wpAny (model prog w) A (newExc (.type "StopIteration") [] >>= fun e => (raiseNew e : Sem α)) Q E s := by
  obtain ⟨hh, o1, vs1, g1, d1, c1⟩ := hot
  simp only [newExc, newTuple]
  refine wpAny_bind (wpAny_bind (wpAny_newObj_type ?_ (by size_fits)))
  refine wpAny_bind (m := firstArgMember _ _) (wpAny_of_eq (a := Value.none) (by simp only [firstArgMember]; rfl) ?_)
  refine wpAny_newObj_type (raiseNew_hot ⟨hh, o1, vs1, Heap.get?_push_of_some _ (Heap.get?_push_of_some _ g1), d1, c1⟩ (Nat.ne_of_lt (Heap.lt_size (Heap.get?_push_of_some _ g1))) (Heap.get?_push_size _ rfl) rfl (by simp; omega) ?_) (by size_fits)
  refine hE _ _ (fun b o e => ?_) ⟨_, Heap.get?_update_self _ (Heap.get?_push_size _ rfl) rfl, rfl⟩
  rw [Heap.get?_update_other _ _ (Nat.ne_of_gt (Heap.lt_size (Heap.get?_push_of_some _ e)))]
  exact Heap.get?_push_of_some _ (Heap.get?_push_of_some _ e)
theorem hot_later {h h' : Heap} (hot : HotAt A x1 h) (k : ∀ o, h.get? x1 = some o → h'.get? x1 = some o) : HotAt A x1 h' := by
  obtain ⟨hh, o, vs, g, r⟩ := hot
  exact ⟨hh, o, vs, k o g, r⟩
/-- a list's iterator at the end, asked by a built-in -/
theorem nextOf_end {it l : Addr} {i : Nat} {items : Array Value} {Q : Value → Shared → Prop} (hot : HotAt A x1 s.heap) (hne : it ≠ x1) (hit : s.heap.IsListIter it l i) (hl : s.heap.IsList l items) (hx : items[i]? = none)
    (hE : ∀ (g : Heap) (e : Addr), (∀ b o, b ≠ it → s.heap.get? b = some o → g.get? b = some o) → (∃ o, g.get? e = some o ∧ o.cls = .type "StopIteration") → E (.ref e) { s with heap := g }) : wpAny (model prog w) A (Builtin.SmallTypes.nextOf (.ref it)) Q E s := by
  obtain ⟨o, ho, hc, hd⟩ := id hit
  obtain ⟨ol, hol, hcl, nl, hdl⟩ := hl
  unfold Builtin.SmallTypes.nextOf
  refine wpAny_bind (wpAny_callSpecial?_slot (name := Str.ofString "__next__") hit.typeIs slot_listiter_next (wpAny_call_entry slot_listiter_next hit.typeIs entry_listiter_next ?_ (args_listiter_next _)))
  show wpAny _ _ (field (.ref it) 0 >>= _) _ _ s; refine wpAny_bind (wpAny_field ho hd (x := .ref l) rfl ?_)
  show wpAny _ _ (if (Value.ref l == Value.none) = true then _ else _) _ _ s; rw [if_neg (show ¬ ((Value.ref l == Value.none) = true) from Bool.false_ne_true)]
  show wpAny _ _ (field (.ref it) 1 >>= _) _ _ s; refine wpAny_bind (wpAny_field ho hd (x := .int i 0) rfl ?_)
  show wpAny _ _ (seqItems? (.ref l) >>= _) _ _ s; refine wpAny_bind (wpAny_seqItems hol hdl ?_)
  simp only [Int.toNat_natCast, hx]
  refine wpAny_bind (wpAny_rule (wpAny_bind (wpAny_setField ho hd (by simp) (stop_hot (hot_later (A := A) hot fun o' e => ?_) fun g e k st => hE g e (fun b o' hb e' => k b o' ?_) st))))
  · exact (Heap.get?_update_other _ _ hne).trans e
  · exact (Heap.get?_update_other _ _ (Ne.symm hb)).trans e'
/-- a tuple's iterator at the end -/
theorem tup_end {it t : Addr} {i : Nat} {items : Array Value} {Q : Option Value → Shared → Prop} (hot : HotAt A x1 s.heap) (hne : it ≠ x1) (hit : IsTupIter s.heap it t i) (ht : IsTup s.heap t items) (hx : items[i]? = none)
    (hQ : ∀ g : Heap, (∀ b o, b ≠ it → s.heap.get? b = some o → g.get? b = some o) → Q none { s with heap := g }) : wpAny (model prog w) A (pyNext (.ref it)) Q E s := by
  obtain ⟨o, ho, hc, hd⟩ := id hit
  obtain ⟨ol, hol, hcl, nl, hdl⟩ := ht
  have hT : s.TypeIs (.ref it) "tuple_iterator" := ⟨o, ho, hc⟩
  unfold pyNext
  refine wpAny_bind (wpAny_attempt (wpAny_callSpecial?_slot (name := Str.ofString "__next__") hT F.slot_tuple_iterator_next (wpAny_call_entry F.slot_tuple_iterator_next hT F.entry_tuple_iterator_next ?_ (F.args_tuple_iterator_next_1 _))))
  show wpAny _ _ (field (.ref it) 0 >>= _) _ _ s; refine wpAny_bind (wpAny_field ho hd (x := .ref t) rfl ?_)
  show wpAny _ _ (if (Value.ref t == Value.none) = true then _ else _) _ _ s; rw [if_neg (show ¬ ((Value.ref t == Value.none) = true) from Bool.false_ne_true)]
  show wpAny _ _ (field (.ref it) 1 >>= _) _ _ s; refine wpAny_bind (wpAny_field ho hd (x := .int i 0) rfl ?_)
  show wpAny _ _ (seqItems? (.ref t) >>= _) _ _ s; refine wpAny_bind (wpAny_seqItems hol hdl ?_)
  simp only [Int.toNat_natCast, hx]
  refine wpAny_bind (wpAny_rule (wpAny_bind (wpAny_setField ho hd (by simp) (stop_hot (hot_later (A := A) hot fun o' e => ?_) fun g e k st => ?_))))
  · exact (Heap.get?_update_other _ _ hne).trans e
  · obtain ⟨o', h1, h2⟩ := st
    refine wpAny_bind (wpAny_isInstance (T := "StopIteration") (b := true) ⟨o', h1, h2⟩ isSubtype_stop (wpAny_pure (hQ g fun b o' hb e' => k b o' ?_)))
    exact (Heap.get?_update_other _ _ (Ne.symm hb)).trans e'
/-- a, b = a tuple of that length -/
theorem assign_tup {env : Env} {elts : List Expr} {n : Nat} {pos : Pos} {t : Addr} {items : Array Value} {Q : Unit → Shared → Prop} (hot : HotAt A x1 s.heap) (ht : IsTup s.heap t items)
    (hn : (assignEach elts env).length = items.size) (hstar : (assignEach elts env).findIdx? (·.1) = none)
    (h : ∀ g : Heap, (∀ b o, s.heap.get? b = some o → g.get? b = some o) → wpAny (model prog w) A (assignInOrder ((assignEach elts env).map (·.2)) items.toList) Q E { s with heap := g }) :
    wpAny (model prog w) A (assign (.Tuple elts n pos) env (.ref t)) Q E s := by
  have lt : t < s.heap.objs.size := by obtain ⟨o, ho, _⟩ := ht; exact Heap.lt_size ho
  have l1 : x1 < s.heap.objs.size := by obtain ⟨_, o, vs, g, _⟩ := hot; exact Heap.lt_size g
  rw [assign_Tuple]
  refine wpAny_bind (wpAny_standAt ?_)
  unfold unpack
  rw [hn, hstar]
  refine wpAny_bind (wpAny_holding ?_)
  unfold unpackItems
  refine wpAny_bind ?_
  unfold notIterableAtAll
  refine wpAny_bind (wpAny_specialOf ht.typeIs slot_tuple_iter.lookup (wpAny_pure ?_))
  simp only [Bool.false_eq_true, if_false]
  refine wpAny_bind (wpAny_holding (iter_tuple ht (wpAny_bind (wpAny_holding (draw_tuple (Nat.ne_of_lt lt) items.size 0 _ _ ⟨_, Heap.get?_push_size _ rfl, rfl, rfl⟩ (ht.push _) (by omega) fun g1 it1 sb => ?_)))))
  have e0 : List.take items.size (List.drop 0 items.toList) = items.toList := by rw [List.drop_zero]; exact List.take_of_length_le (by simp)
  rw [e0, if_neg (by simp)]
  have up : ∀ b o, b ≠ s.heap.objs.size → s.heap.get? b = some o → g1.get? b = some o := fun b o hb e => sb.extBut b o hb (Heap.get?_push_of_some _ e)
  refine wpAny_bind (wpAny_holding (tup_end (x1 := x1) (hot_later (A := A) hot fun o e => up _ o (Nat.ne_of_lt l1) e) (Nat.ne_of_gt l1) it1 ((ht.push _).extBut sb.extBut (Nat.ne_of_lt lt)) (by simp) fun g2 k2 => ?_))
  simp only [Option.isSome_none, Bool.false_eq_true, if_false]
  exact wpAny_pure (h g2 fun b o e => k2 b o (Nat.ne_of_lt (Heap.lt_size e)) (up b o (Nat.ne_of_lt (Heap.lt_size e)) e))
/-- zip of two lists at the end of the first -/
theorem zip_end {z TI TO i1 i2 l1 l2 : Addr} {k1 k2 : Nat} {xs : Array Value} {a b : Value} {Q : Option Value → Shared → Prop} (hot : HotAt A x1 s.heap) (D : ZipApart z TI TO i1 i2 l1 l2) (hx1 : x1 ≠ z ∧ x1 ≠ i1)
    (hz : IsZip s.heap z TI TO .none) (hTI : IsPair s.heap TI (.ref i1) (.ref i2)) (hTO : IsPair s.heap TO a b) (h1 : s.heap.IsListIter i1 l1 k1) (h2 : s.heap.IsListIter i2 l2 k2) (hl1 : s.heap.IsList l1 xs) (hend : xs[k1]? = none)
    (hQ : ∀ g : Heap, (∀ c o, c ≠ z → c ≠ i1 → s.heap.get? c = some o → g.get? c = some o) → Q none { s with heap := g }) : wpAny (model prog w) A (pyNext (.ref z)) Q E s := by
  have hT : s.TypeIs (.ref z) "zip" := ⟨_, hz, rfl⟩
  unfold pyNext
  refine wpAny_bind (wpAny_attempt (wpAny_callSpecial?_slot (name := Str.ofString "__next__") hT F.slot_zip_next (wpAny_call_entry F.slot_zip_next hT F.entry_zip_next ?_ (F.args_zip_next_1 _))))
  show wpAny _ _ (field (.ref z) 2 >>= _) _ _ _; refine wpAny_bind (wpAny_field hz rfl (x := .bool false) rfl ?_)
  show wpAny _ _ (field (.ref z) 3 >>= _) _ _ _; refine wpAny_bind (wpAny_field hz rfl (x := .ref TI) rfl (wpAny_bind (wpAny_seqItems hTI rfl ?_)))
  show wpAny _ _ (Builtin.SmallTypes.ownedTupleIsFree (.ref z) >>= _) _ _ _; refine wpAny_bind ?_
  unfold Builtin.SmallTypes.ownedTupleIsFree
  refine wpAny_bind (wpAny_field hz rfl (x := .none) rfl (wpAny_pure ?_))
  simp only [if_true]
  refine wpAny_bind (wpAny_rule (wpAny_bind (wpAny_field hz rfl (x := .ref TO) rfl (wpAny_bind (wpAny_setField_rec hz (by simp) fun g1 z1 s1 => ?_)))))
  replace z1 : IsZip g1 z TI TO .ellipsis := z1
  refine wpAny_bind ?_
  simp only [List.zipIdx_cons, List.zipIdx_nil, List.forIn_cons, List.forIn_nil]
  refine wpAny_bind (wpAny_bind (wpAny_onRaise ?_))
  show wpAny _ _ (Builtin.SmallTypes.nextOf (.ref i1) >>= _) _ _ _
  refine wpAny_bind (nextOf_end (x1 := x1) (hot_later (A := A) hot fun o e => s1.extBut _ o hx1.1 e) (Ne.symm hx1.2) (h1.extBut s1.extBut D.i1z) (hl1.extBut s1.extBut D.l1z) hend fun g2 e k2 he => ?_)
  obtain ⟨oe, hoe, hce⟩ := he
  have z2 : IsZip g2 z TI TO .ellipsis := k2 _ _ D.i1z.symm z1
  have hez : e ≠ z := fun q => by subst q; rw [z2] at hoe; cases hoe; simp at hce
  refine wpAny_setField_rec z2 (by simp) fun g3 z3 s3 => ?_
  refine wpAny_bind (wpAny_isInstance (T := "StopIteration") (b := true) ⟨oe, s3.extBut _ _ hez hoe, hce⟩ isSubtype_stop (wpAny_pure (hQ g3 fun c o c1 c2 q => s3.extBut _ _ c1 (k2 _ _ c2 (s1.extBut _ _ c1 q)))))
end
end VMH

set_option Elab.async false
set_option maxRecDepth 100000
set_option linter.unusedVariables false
/-! a comprehension over zip while an exception is handled -/
namespace VMH
open PySem PySem.Spec PyProof.Rows HotX L2
abbrev Pv := List (Addr × Obj)
structure TurnX (P : Program) (w : World) (K : PySem.W.Frag) (x1 : Addr) (tg : Expr) (J : L2.It) (fp : List Addr) (it : Addr) (tn : Nat → Heap → Prop) : Prop where
  obj : ∀ i h, tn i h → ∀ b ∈ fp, ∃ o, h.get? b = some o ∧ ∀ v, o.data ≠ .cell v
  keep : ∀ i h h', tn i h → (∀ b ∈ fp, ∀ o, h.get? b = some o → h'.get? b = some o) → tn i h'
  item : ∀ (X : Cx), X.prog = P → X.w = w → X.K = K → ∀ (i : Nat) (pins : Pv) (s : Shared) (σ : L2.St) (H : Hp) (E : Value → Shared → Prop), Inv X pins σ H s → (∀ b ∈ fp, FpOk X pins H b) → tn i s.heap → J.go i H →
    wpAny (model P w) X.A (pyNext (.ref it)) (fun r s1 => ∃ u, r = some u ∧ wpAny (model P w) X.A (letOwnedTupleGo tg (.ref it) u) (fun _ s2 => ∃ x H', Inv X pins σ H' s2 ∧ RelV x u ∧ J.yld i H x H' ∧ tn (i + 1) s2.heap ∧ ∀ b ∈ fp, H' b = none) E s1) E s
  done : ∀ (X : Cx), X.prog = P → X.w = w → X.K = K → ∀ (i : Nat) (pins : Pv) (s : Shared) (σ : L2.St) (H : Hp) (E : Value → Shared → Prop), HotAt X.A x1 s.heap → x1 ∉ fp → Inv X pins σ H s → (∀ b ∈ fp, FpOk X pins H b) → tn i s.heap → J.stop i H →
    wpAny (model P w) X.A (pyNext (.ref it)) (fun r s1 => r = none ∧ Inv X pins σ H s1) E s
  self : ∀ (A : Around) (i : Nat) (s : Shared) (Q : Value → Shared → Prop) (E : Value → Shared → Prop), tn i s.heap → Q (.ref it) s → wpAny (model P w) A (pyIter (.ref it)) Q E s
/-- two lists, the first one not the longer -/
def Itq (K : PySem.W.Frag) (a b : Addr) : L2.It := { Itz K a b with stop := fun i H => ∃ xs ys, SqL K H a xs ∧ SqL K H b ys ∧ xs.length ≤ i }
theorem five {c z TI TO i1 i2 : Addr} (h : c ∈ [z, TI, TO, i1, i2]) : c = z ∨ c = TI ∨ c = TO ∨ c = i1 ∨ c = i2 := by simpa using h
theorem turn_zipX {P : Program} {w : World} {K : PySem.W.Frag} {x1 : Addr} {elts : List Expr} {n : Nat} {tpos : Pos} {a b z TI TO i1 i2 : Addr} (D : ZipApart z TI TO i1 i2 a b) :
    TurnX P w K x1 (.Tuple elts n tpos) (Itq K a b) [z, TI, TO, i1, i2] z (fun i h => IsZip h z TI TO .none ∧ IsPair h TI (.ref i1) (.ref i2) ∧ (∃ x y, IsPair h TO x y) ∧ h.IsListIter i1 a i ∧ h.IsListIter i2 b i) := by
  have T := turn_zip (P := P) (w := w) (K := K) (elts := elts) (kk := n) (tpos := tpos) D
  refine ⟨T.obj, T.keep, ?_, ?_, T.self⟩
  · rintro X rfl rfl rfl i pins s σ H E I hf ⟨hz, hTI, ⟨x0, y0, hTO⟩, h1, h2⟩ ⟨xs, ys, x, y, qx, qy, hx, hy⟩
    obtain ⟨its, rv, p, _⟩ := I.list qx
    obtain ⟨its2, rv2, p2, _⟩ := I.list qy
    obtain ⟨u, hu, ru⟩ := rv.get hx
    obtain ⟨u2, hu2, ru2⟩ := rv2.get hy
    have lz := Heap.lt_size hz
    refine wpAny_pyNext_zip_item D hz hTI hTO h1 h2 p.isList p2.isList (by simpa using hu) (by simpa using hu2) fun g gz gTO g1 g2 gT gs gk => ⟨_, rfl, ?_⟩
    refine wpAny_letOwnedTupleGo_zip (s := { s with heap := g }) gz fun f fz sb => ?_
    have fT : f.get? s.heap.objs.size = some { cls := .type "tuple", data := .seq #[u, u2] } := (sb.2 _ (Nat.ne_of_gt lz)).trans gT
    have ob : ObjOk X.prog X.w (upd H s.heap.objs.size (.tup [x, y])) f s.heap.objs.size (.tup [x, y]) := ⟨by show 2 ≤ sizeLine; decide, [u, u2], .cons ru (.cons ru2 .nil), ⟨_, fT, rfl, _, rfl⟩⟩
    have kk : ∀ c o, c ∉ [z, TI, TO, i1, i2] → s.heap.get? c = some o → f.get? c = some o := fun c o hc q => by
      have nz : ∀ d ∈ [z, TI, TO, i1, i2], c ≠ d := fun d hd e => hc (e ▸ hd)
      exact (sb.2 c (nz z (by simp))).trans (gk c o (nz z (by simp)) (nz TO (by simp)) (nz i1 (by simp)) (nz i2 (by simp)) q)
    have J1 : Inv X pins σ (upd H s.heap.objs.size (.tup [x, y])) { s with heap := f } := I.turnedNew (t' := s.toks) (ch := [z, TI, TO, i1, i2]) kk hf (Nat.le_refl _) ob
    refine ⟨.ref s.heap.objs.size, _, J1, rfl, ⟨_, x, y, rfl, I.hok.fresh (Nat.le_refl _), rfl, fun l hl => ?_, fun l hl => ?_⟩, ⟨fz, (sb.2 _ D.TIz).trans (gk _ _ D.TIz D.TITO D.TIi1 D.TIi2 hTI), ⟨u, u2, (sb.2 _ D.TOz).trans gTO⟩, g1.at fun o q => (sb.2 _ D.i1z).trans q, g2.at fun o q => (sb.2 _ D.i2z).trans q⟩, fun c hc => ?_⟩
    · rw [I.list_inj hl qx]; exact hx
    · rw [I.list_inj hl qy]; exact hy
    · obtain ⟨o, e, _⟩ := T.obj i s.heap ⟨hz, hTI, ⟨x0, y0, hTO⟩, h1, h2⟩ c hc
      rw [upd_ne (Nat.ne_of_lt (Heap.lt_size e))]
      exact (hf c hc).1
  · rintro X rfl rfl rfl i pins s σ H E hot nx I hf ⟨hz, hTI, ⟨x0, y0, hTO⟩, h1, h2⟩ ⟨xs, ys, qx, qy, le⟩
    obtain ⟨its, rv, p, _⟩ := I.list qx
    have l1 := rv.length
    refine zip_end (x1 := x1) hot D ⟨fun e => nx (by simp [e]), fun e => nx (by simp [e])⟩ hz hTI hTO h1 h2 p.isList (by simp; omega) fun g k => ⟨rfl, ?_⟩
    exact I.turnedL (t' := s.toks) (ch := [z, TI, TO, i1, i2]) (fun c o hc q => k c o (fun e => hc (by simp [e])) (fun e => hc (by simp [e])) q) hf
def PIEX (X : Cx) (pins : Pv) (σ : L2.St) (x1 : Addr) (tg : Expr) (R : L2.It → Hp → Prop) (itv : Value) (s2 : Shared) : Prop :=
  ∃ (it : Addr) (fp : List Addr) (tn : Nat → Heap → Prop) (J : L2.It) (H' : Hp), itv = .ref it ∧ x1 ∉ fp ∧ Inv X pins σ H' s2 ∧ TurnX X.prog X.w X.K x1 tg J fp it tn ∧ tn 0 s2.heap ∧ (∀ b ∈ fp, FpOk X pins H' b) ∧ R J H'
/-- the exception at x1 is handled in all states of X -/
def HotAll (X : Cx) (x1 : Addr) (o1 : Obj) : Prop := X.A.handled = some (.ref x1) ∧ (∃ vs : Array Value, o1.data = .fields vs ∧ vs[2]? = some .none) ∧ ∀ (pins : Pv) (σ : L2.St) (H : Hp) (s : Shared), Inv X pins σ H s → s.heap.get? x1 = some o1 ∧ H x1 = none ∧ x1 ∉ frs X.stack
theorem HotAll.at {X : Cx} {x1 : Addr} {o1 : Obj} (h : HotAll X x1 o1) {pins : Pv} {σ : L2.St} {H : Hp} {s : Shared} (I : Inv X pins σ H s) : HotAt X.A x1 s.heap := by
  obtain ⟨h1, ⟨vs, d, c⟩, h2⟩ := h
  exact ⟨h1, o1, vs, (h2 _ _ _ _ I).1, d, c⟩
/-- zip(a, b) -/
theorem zip_start {X : Cx} {x1 : Addr} {o1 : Obj} (hot : HotAll X x1 o1) {e e2 : Expr} {ta : TA} {p pos tpos : Pos} {elts : List Expr} {n : Nat} {pins : Pv} {s : Shared} {σ : L2.St} {H : Hp} {R : L2.It → Hp → Prop} (hg : Gl X "zip") (hm : X.mg "zip" = none) (ha : PA X [e, e2] ta)
    (hs : starEach [e, e2] X.env = (false, eval e X.env) :: starEach [e2] X.env) (hpl : (backTo pos (starEach [e2] X.env)).any (·.1) = false) (I : Inv X pins σ H s)
    (h : ta σ H fun vs H1 => ∃ a b xs ys, vs = [.ref a, .ref b] ∧ SqL X.K H1 a xs ∧ SqL X.K H1 b ys ∧ R (Itq X.K a b) H1) :
    wpAny (model X.prog X.w) X.A (eval (.Call (.Name "zip" p) [e, e2] [] pos) X.env) (fun v s1 => wpAny (model X.prog X.w) X.A (pyIter v) (PIEX X pins σ x1 (.Tuple elts n tpos) R) X.xe s1) X.xe s := by
  refine Call_ (ld_blt I hg hm PyProof.Rows.boot_zip (PyProof.Rows.callWith_type1 (thn (ha.run pos pins s σ H _ I h) fun us s1 hh => ?_) hs hpl))
  obtain ⟨vs, H1, J1, r1, a, b, xs, ys, ex, qx, qy, q⟩ := hh
  subst ex
  cases r1 with
  | cons r rr =>
    cases rr with
    | cons r' rr =>
      cases rr; cases r; cases r'
      obtain ⟨its, rv, p1, _⟩ := J1.list qx
      obtain ⟨its2, rv2, p2, _⟩ := J1.list qy
      refine call_zip_2 p1.isList p2.isList fun g gz gTI gTO g1 g2 gs gk => wpAny_pyIter_zip gz ?_
      have lx : x1 < s1.heap.objs.size := Heap.lt_size (hot.2.2 _ _ _ _ J1).1
      generalize hN : s1.heap.objs.size = N at gz gTI gTO g1 g2
      have ap := PySem.W.ktu_apart N a b (by rw [← hN]; exact p1.lt) (by rw [← hN]; exact p2.lt)
      rw [hN] at lx
      have ge : ∀ c ∈ [N + 4, N + 2, N + 3, N, N + 1], N ≤ c := fun c hc => by rcases five hc with e | e | e | e | e <;> rw [e] <;> first | exact Nat.le_add_right _ _ | exact Nat.le_refl _
      refine ⟨N + 4, [N + 4, N + 2, N + 3, N, N + 1], _, _, H1, rfl, fun h => absurd (ge _ h) (Nat.not_le_of_gt lx), J1.kept (t' := s1.toks) gk, turn_zipX ap, ⟨gz, gTI, ⟨_, _, gTO⟩, g1, g2⟩, fun c hc => ?_, q⟩
      have le : s1.heap.objs.size ≤ c := by rw [hN]; exact ge c hc
      exact J1.fpOk le (J1.hok.fresh le)
theorem pg_tupX {X : Cx} {x1 : Addr} {o1 : Obj} {es : List Expr} {k : Nat} {pos : Pos} {t : TGs} {n : Nat} (hot : HotAll X x1 o1) (h : PGs X es t) (hn : (assignEach es X.env).length = n) (hst : (assignEach es X.env).findIdx? (·.1) = none) : PG X (.Tuple es k pos) (gTup X.K n t) := by
  refine ⟨fun pins s σ H v u Q I r hw => ?_⟩
  obtain ⟨a, xs, e1, hq, hl, hw⟩ := hw
  subst e1; cases r
  obtain ⟨its, rv, ht, hz⟩ := I.tuple hq
  refine assign_tup (hot.at I) ht (by simp [hn, ← hl, rv.length]) hst fun g k => ?_
  have J1 : Inv X pins σ H { s with heap := g } := I.kept (t' := s.toks) k
  exact h.run pins _ σ H xs _ Q J1 (by simpa using rv) hw
end VMH

set_option Elab.async false
set_option maxRecDepth 100000
set_option linter.unusedVariables false
/-! a comprehension over zip while an exception is handled: the block -/
namespace VMH
open PySem PySem.Spec PyProof.Rows HotX L2
theorem HotAll.blk {X : Cx} {x1 : Addr} {o1 : Obj} (h : HotAll X x1 o1) {s : Shared} {H : Hp} {scope : Scope} {ce : Env} {fp : List Addr} (g : s.heap.get? x1 = some o1) (f : H x1 = none) (ns : x1 ∉ frs X.stack) (nx : x1 ∉ fp) : HotAll (X.blk s H scope ce fp) x1 o1 :=
  ⟨h.1, h.2.1, fun pins σ H' s' I => ⟨I.base.keep x1 o1 g f ns nx, I.base.free x1 o1 g f nx, ns⟩⟩
/-- what a comprehension's rule asks of what is walked -/
def RLc (g : TG) (tt : TT) (te : TE) (vs : List Nat) (σ : L2.St) (Q : VK) : L2.It → Hp → Prop := fun J H1 => ∀ D, H1 D = none → ∃ W : Nat → Nat → Hp → Prop, (∃ m, W 0 m (upd H1 D (.lst []))) ∧ ∀ i m H, W i m H →
  (J.stop i H ∧ Q (.ref D) H) ∨ (J.go i H ∧ ∃ Nx : Hp → Prop, (∀ H', Nx H' → ∃ m', m' < m ∧ W (i + 1) m' H') ∧ ∀ x H', J.yld i H x H' → g x (wipe σ vs) H' fun σ2 H2 => wipe σ2 vs = wipe σ vs ∧ tt σ2 H2 fun b H3 =>
    if b = true then te σ2 H3 fun y H4 => ∃ acc, H4 D = some (.lst acc) ∧ acc.length < sizeLine ∧ Nx (upd H4 D (.lst (acc ++ [y]))) else Nx H3)
theorem pe_lcX {X : Cx} {x1 : Addr} {o1 : Obj} {elt : Expr} {elts : List Expr} {n : Nat} {tpos p pz pos : Pos} {e e2 : Expr} {ifs : List Expr} {scope : Scope} {own : List (Str × Nat)} {ta : TA} {g : TG} {tt : TT} {te : TE} (hot : HotAll X x1 o1) (hN : X.N.Nodup)
    (hgz : Gl X "zip") (hmz : X.mg "zip" = none) (ha : PA X [e, e2] ta) (hst : starEach [e, e2] X.env = (false, eval e X.env) :: starEach [e2] X.env) (hpl : (backTo pz (starEach [e2] X.env)).any (·.1) = false) (ok : BlkOk X.N X.env.scope scope own)
    (hg : ∀ (s : Shared) (H : Hp) (C : Addr) (cl : List (Str × Addr)) (fp : List Addr), HotAll (X.blk s H scope (compEnvC scope cl C X.env) fp) x1 o1 → PG (X.blk s H scope (compEnvC scope cl C X.env) fp) (.Tuple elts n tpos) g)
    (ht : ∀ (s : Shared) (H : Hp) (C : Addr) (cl : List (Str × Addr)) (fp : List Addr), PTs (X.blk s H scope (compEnvC scope cl C X.env) fp) ifs tt)
    (he : ∀ (s : Shared) (H : Hp) (C : Addr) (cl : List (Str × Addr)) (fp : List Addr), PE (X.blk s H scope (compEnvC scope cl C X.env) fp) elt te) :
    PE X (.ListComp elt [⟨.Tuple elts n tpos, .Call (.Name "zip" p) [e, e2] [] pz, ifs, 0⟩] scope pos)
      (tLc (fun σ H R => ta σ H fun vs H1 => ∃ a b xs ys, vs = [.ref a, .ref b] ∧ SqL X.K H1 a xs ∧ SqL X.K H1 b ys ∧ R (Itq X.K a b) H1) g tt te (own.map (·.2))) := by
  refine ⟨fun pins s σ H Q I h => ?_⟩
  rw [eval_ListComp]
  have h : ta σ H fun vs H1 => ∃ a b xs ys, vs = [.ref a, .ref b] ∧ SqL X.K H1 a xs ∧ SqL X.K H1 b ys ∧ RLc g tt te (own.map (·.2)) σ Q (Itq X.K a b) H1 := h
  have free : ∀ y ∈ scope.names, y.2 = .free → ∃ c, X.env.cells.lookup y.1 = some c := fun y hy e => (ok.free y hy e).elim (fun k => I.ok.has _ (.inl k)) fun k => I.ok.has _ (.inr k)
  refine wpAny_comprehension_free (use := none) rfl (fun x => rfl) (closure_ok free) ok.kind (fun y hy e => by rw [ok.uniq y hy, e]) (thn (zip_start (n := n) (elts := elts) (tpos := tpos) hot hgz hmz ha hst hpl I h) fun xv s1 hx => thn hx fun itv s2 h2 => ?_)
  obtain ⟨it, fp, tn, J, H2, e0, nx, I2, T, st2, f2, q⟩ := h2
  subst e0
  refine wpAny_newObj_type (newEnv_comp ?_) (by show 0 ≤ sizeLine; decide)
  generalize hD : s2.heap.objs.size = D
  have hDn : H2 D = none := I2.hok.fresh (Nat.le_of_eq hD)
  obtain ⟨W, ⟨m0, w0⟩, turn⟩ := q D hDn
  generalize hs3 : ({ s2 with heap := s2.heap.push { cls := .type "list", data := .seq ([] : List Value).toArray } } : Shared) = s3
  have h3 : s3.heap = s2.heap.push { cls := .type "list", data := .seq ([] : List Value).toArray } := by rw [← hs3]
  have up3 : ∀ b o, s2.heap.get? b = some o → s3.heap.get? b = some o := fun b o e => by rw [h3]; exact Heap.get?_push_of_some _ e
  have I3 : Inv X pins σ (upd H2 D (.lst [])) s3 := by
    rw [← hs3]
    exact I2.laid (t' := s2.toks) (fun b o e => Heap.get?_push_of_some _ e) (Nat.le_of_eq hD) ⟨Nat.zero_le _, [], 0, .nil, by rw [← hD]; exact Heap.get?_push_size _ rfl⟩
  have lt2 : ∀ b ∈ fp, b < s2.heap.objs.size := fun b hb => let ⟨o, e, _⟩ := T.obj _ _ st2 b hb; Heap.lt_size e
  have f3 : ∀ b ∈ fp, FpOk X pins (upd H2 D (.lst [])) b ∧ b < s3.heap.objs.size := fun b hb =>
    ⟨⟨by rw [upd_ne (by rw [← hD]; exact Nat.ne_of_lt (lt2 b hb))]; exact (f2 b hb).1, (f2 b hb).2⟩, by rw [h3, Heap.size_push]; exact Nat.lt_succ_of_lt (lt2 b hb)⟩
  have st3 : tn 0 s3.heap := T.keep _ _ _ st2 fun b _ o e => up3 b o e
  have I4 := block_start I3 ok hN f3
  obtain ⟨x3, y3, z3⟩ := hot.2.2 _ _ _ _ I3
  have hot4 : HotAll (X.blk s3 (upd H2 D (.lst [])) scope (compEnvC scope (cellsFrom (s3.heap.objs.size + 1) scope.names (cloFrom X.env.cells scope.names [])) s3.heap.objs.size X.env) fp) x1 o1 := hot.blk x3 y3 z3 nx
  have pg := hg _ _ _ _ _ hot4
  have pt := ht s3 (upd H2 D (.lst [])) s3.heap.objs.size (cellsFrom (s3.heap.objs.size + 1) scope.names (cloFrom X.env.cells scope.names [])) fp
  have pe := he s3 (upd H2 D (.lst [])) s3.heap.objs.size (cellsFrom (s3.heap.objs.size + 1) scope.names (cloFrom X.env.cells scope.names [])) fp
  show codeAny _ _ (.compStart _ 0 (.ref it) (.ref D) (compEnvC scope (cellsFrom (s3.heap.objs.size + 1) scope.names (cloFrom X.env.cells scope.names [])) s3.heap.objs.size X.env)) _ { s3 with heap := pushCells (s3.heap.push { cls := .type "dict", data := .dict #[] }) scope.names }
  have nfp : ∀ b ∈ fp, (upd H2 D (.lst [])) b = none := fun b hb => (f3 b hb).1.1
  generalize hce : compEnvC scope (cellsFrom (s3.heap.objs.size + 1) scope.names (cloFrom X.env.cells scope.names [])) s3.heap.objs.size X.env = ce at I4 pg pt pe hot4 ⊢
  have cL : ce.locals = s3.heap.objs.size := by subst hce; rfl
  generalize hH3 : upd H2 D (.lst []) = H3 at I3 I4 pg pt pe w0 nfp f3 hot4
  generalize hs4 : ({ s3 with heap := pushCells (s3.heap.push { cls := .type "dict", data := .dict #[] }) scope.names } : Shared) = s4 at I4 ⊢
  have st4 : tn 0 s4.heap := T.keep _ _ _ st3 fun b _ o e => by rw [← hs4]; exact pushCells_keeps _ _ _ _ (Heap.get?_push_of_some _ e)
  have stat : ∀ {σ' : L2.St} {H' : Hp} {s' : Shared}, Inv (X.blk s3 H3 scope ce fp) [] σ' H' s' → (∀ b ∈ fp, H' b = none) → ∀ b ∈ fp, FpOk (X.blk s3 H3 scope ce fp) [] H' b := fun {σ' H' s'} I' hn b hb =>
    ⟨hn b hb, (I'.ok.exf b hb).1, I'.ok.exfs b hb, .inl hb, fun x c e => (I'.ok.exf b hb).2 x c e, fun q hq => by cases hq⟩
  refine codeAny_compStart_list ?loop (T.self X.A 0 _ _ _ st4 ?loop)
  case loop =>
    refine compLoop_any (fun k s' => ∃ i H', Inv (X.blk s3 H3 scope ce fp) [] (wipe σ (own.map (·.2))) H' s' ∧ tn i s'.heap ∧ (∀ b ∈ fp, H' b = none) ∧ W i k H') ?_ m0 ⟨0, H3, I4, st4, nfp, w0⟩
    rintro k s5 ⟨i, H5, I5, st5, n5, w5⟩
    rcases turn i k H5 w5 with ⟨stop, qq⟩ | ⟨go, Nx, hNx, step⟩
    · refine thnF (T.done (X.blk s3 H3 scope ce fp) rfl rfl rfl i [] s5 _ H5 (fun _ _ => False) (hot4.at I5) nx I5 (stat I5 n5) st5 stop) fun r s6 ⟨hr, I6⟩ => ?_
      subst hr
      have I7 : Inv X pins σ H5 s6 := I3.call' (ch := fp) I6.os I6.base I6.hok I6.bare fun b hb => let z := (f3 b hb).1; ⟨z.2.2.2.1, z.2.1, z.2.2.2.2.1, z.2.2.2.2.2⟩
      have nC : H5 s3.heap.objs.size = none := by have z : H5 ce.locals = none := I6.free; rw [cL] at z; exact z
      obtain ⟨m, hn, _⟩ := I6.loc
      have hn : s6.heap.Ns ce.locals m := hn
      rw [cL] at hn
      obtain ⟨a0, a1, a2, a3, a4, a5⟩ := I3.fpOk (Nat.le_refl _) nC
      exact ⟨m, hn, fun h'' sb => ⟨.ref D, H5, I7.turned (t' := s6.toks) (fun b o hb e => (sb.2 b hb).trans e) a0 a1 a3 a4 a5, rfl, qq⟩⟩
    · refine thnF (T.item (X.blk s3 H3 scope ce fp) rfl rfl rfl i [] s5 _ H5 (fun _ _ => False) I5 (stat I5 n5) st5 go) fun r s6 ⟨u, hr, h6⟩ => ?_
      subst hr
      refine thnF h6 fun _ s7 ⟨x, H7, I7, r7, y7, st7, n7⟩ => ?_
      refine thnF (pg.run _ s7 _ H7 x u _ (I7.pinned (stat I7 n7) (T.obj _ _ st7)) r7 (step x H7 y7)) fun _ s8 ⟨σ8, H8, I8, hw8, q8⟩ => ?_
      refine thnF (pt.run _ s8 σ8 H8 _ I8 q8) fun bb s9 ⟨H9, I9, q9⟩ => ?_
      have fin : ∀ {s' : Shared} {H' : Hp}, Inv (X.blk s3 H3 scope ce fp) ([] ++ pinsAt fp s7.heap) σ8 H' s' → Nx H' → ∃ m, m < k ∧ ∃ i H', Inv (X.blk s3 H3 scope ce fp) [] (wipe σ (own.map (·.2))) H' s' ∧ tn i s'.heap ∧ (∀ b ∈ fp, H' b = none) ∧ W i m H' := fun {s' H'} I' nx' => by
        obtain ⟨m', hm, w'⟩ := hNx H' nx'
        have pin' : ∀ b ∈ fp, ∀ o, s7.heap.get? b = some o → s'.heap.get? b = some o ∧ H' b = none := fun b hb o e =>
          have z := I'.pin (b, o) (List.mem_append_right _ (List.mem_append_right _ (mem_pinsAt hb e)))
          ⟨z.1, z.2.1⟩
        refine ⟨m', hm, i + 1, H', (I'.unpinned (pins := [])).weak (by rw [← hw8, wipe_length]) (fun j v e => by rw [← hw8] at e; exact (wipe_some e).1), T.keep _ _ _ st7 fun b hb o e => (pin' b hb o e).1, fun b hb => ?_, w'⟩
        obtain ⟨o, e, _⟩ := T.obj _ _ st7 b hb
        exact (pin' b hb o e).2
      cases bb with
      | false => simp only [Bool.false_eq_true, if_false] at q9 ⊢; exact fin I9 q9
      | true =>
        simp only [if_true] at q9 ⊢
        refine thnF (pe.run _ s9 σ8 H9 _ I9 q9) fun z s10 ⟨yv, H10, I10, r10, acc, hD10, hz10, nx'⟩ => ?_
        exact app_ok (X := X.blk s3 H3 scope ce fp) I10 hD10 hz10 r10 fun s11 I11 => fin I11 nx'
end VMH

set_option Elab.async false
set_option maxRecDepth 100000
set_option autoImplicit false
set_option linter.unusedVariables false
/-! expressions -/
namespace VM
open PySem PySem.Spec PyProof.Rows L2

/-- what a def promises: its run on the machine -/
def spF (G : Gb) (n : Nat) (g : Nat → List D → Sto → R (D × Nat)) : Sp := fun vs H Q E => vs.length = n ∧ ∃ S B b m μ ds, (∀ x, B x → x ≤ b) ∧ Rep G S B m μ H ∧ RVs G (av S m) m H vs ds ∧ PostE G S B (fun c d _ H => E c d H) m H [] Q (g b ds μ)
/-- an own exception class of the program -/
structure ExcAt (K : PySem.W.Frag) (mg : Str → Option Value) (G : Gb) (c : Str) (C : Addr) : Prop where
  gl : mg c = some (.ref C)
  fn : G.f c = some (.ref C)
  exc : PySem.W.excIn K C [.type "ValueError", .type "Exception", .type "BaseException", .type "object"] "ValueError.__new__" = true
  kp : PySem.W.keepIn K (.ref C) = true
  sub : PySem.W.subIn K (.ref C) (.type "BaseException") = some true
  ty : PySem.W.typeIn K (.ref C) = some (.type "type")
/-- _law_name_of, called with the exception that is handled -/
def NameRun (prog : Program) (w : World) (K : PySem.W.Frag) (mg : Str → Option Value) (base : Heap) (G : Gb) : Prop := ∃ fa fd, mg "_law_name_of" = some (.ref fa) ∧ PySem.W.keepIn K (.ref fa) = true ∧ Binds K fd ["e"] [] ∧
  ∀ (c : Str) (C : Addr), c ∈ excNames → G.f c = some (.ref C) → ∀ (A : Around) (outer : List Env) (s : Shared) (H : Hp) (args : Args) (p : Addr × Obj), L2H.RoomH 1 A → L2H.Hot1 A p → L2H.PinOk outer H s p → Env0 prog w K mg base A outer s H → Zc (.ref C) none p.2 → BindsTo s fd args [("e", .ref p.1)] →
    codeAny (model prog w) A (.call (.ref fa) args) (L2.CR (L2N.CX prog w) outer prog w H s (fun v H' => v = .str (c ++ "+") ∧ Same H H') (fun _ _ _ => False)) s
structure TryOk (prog : Program) (w : World) (K : PySem.W.Frag) (mg : Str → Option Value) (base : Heap) (G : Gb) : Prop where
  row : ∃ Rc, mg "RowError" = some (.ref Rc) ∧ ∀ c C, c ∈ excNames → G.f c = some (.ref C) → PySem.W.exmOne K (.ref C) (.ref Rc) = some true
  nm : NameRun prog w K mg base G
structure Good (X : Cx) (G : Gb) (Tx : Tr) (T : Tb) : Prop where
  calm : X.calm = true
  eqK : X.K = G.K
  nd : X.N.Nodup
  eqN : X.N = Tx.N
  hu : X.A.units + 64 < cLine
  div : DivOk X
  rm : Room 1 X.A
  rz : ∀ c, Tx.rz.contains c = true → ∃ C, ExcAt X.K X.mg G c C
  tr : Tx.tr = true → TryOk X.prog X.w X.K X.mg X.base G
  kind : X.env.scope.kind = .function
  bi : ∀ x ∈ biNames ++ (["range", "zip", "enumerate", "str"] : List Str), X.mg x = none
  gd : Tx.cs = true → X.A.guards = some []
  gl : ∀ x d, T.glob x = some d → ∃ v u, (X.mg x = some u ∨ (X.mg x = none ∧ bootBuiltins x = some u ∧ x ≠ "__name__")) ∧ RelV v u ∧ ∀ A m H, RV G A m H v d
  calld : ∀ x v, G.f x = some v → (∃ b ds μ, T.call x b ds μ ≠ .bad) → ∃ fa fd ps k, v = .ref fa ∧ PySem.W.keepIn X.K (.ref fa) = true ∧ FnOk X.prog X.w X.K X.mg X.base (L2N.CX X.prog X.w) k fa fd ps (spF G ps.length (T.call x)) ∧ Room k X.A ∧ Binds X.K fd ps [] ∧
    ∀ b ds μ, T.call x b ds μ ≠ .bad → ds.length = ps.length
  call : ∀ f, Tx.defs.contains f = true → ∃ fa fd ps k, X.mg f = some (.ref fa) ∧ PySem.W.keepIn X.K (.ref fa) = true ∧ FnOk X.prog X.w X.K X.mg X.base (L2N.CX X.prog X.w) k fa fd ps (spF G ps.length (T.call f)) ∧ Room k X.A ∧ Binds X.K fd ps [] ∧
    ∀ b ds μ, T.call f b ds μ ≠ .bad → ds.length = ps.length

def tE (G : Gb) (T : Tb) (b : Nat) (W : L2.WX) (e : E) : TE := fun σ H Q => ∃ S B m μ ρ, (∀ x, B x → x ≤ b) ∧ Rep G S B m μ H ∧ EnvR G (av S m) m H σ ρ ∧ PostE G S B W m H σ Q (evE T b e ρ μ)
def PostA (G : Gb) (S : AP_) (B : Nat → Prop) (W : L2.WX) (m : List Addr) (H : Hp) (σ : L2.St) (Q : List V → Hp → Prop) : R (List D) → Prop
  | .ok ds μ' => ∀ vs H' m', Evo m H m' H' → Rep G S B m' μ' H' → RVs G (av S m') m' H' vs ds → Q vs H'
  | .err x μ' => ∀ cls dd H' m', Evo m H m' H' → Rep G S B m' μ' H' → ExcR G x cls dd H' → W cls dd σ H'
  | .bad => False
def tA (G : Gb) (T : Tb) (b : Nat) (W : L2.WX) (es : Es) : L2.TA := fun σ H Q => ∃ S B m μ ρ, (∀ x, B x → x ≤ b) ∧ Rep G S B m μ H ∧ EnvR G (av S m) m H σ ρ ∧ PostA G S B W m H σ Q (evEs T b es ρ μ)
def PostT (G : Gb) (S : AP_) (B : Nat → Prop) (W : L2.WX) (m : List Addr) (H : Hp) (σ : L2.St) (Q : Bool → Hp → Prop) : R Bool → Prop
  | .ok k μ' => ∀ H' m', Evo m H m' H' → Rep G S B m' μ' H' → Q k H'
  | .err x μ' => ∀ cls dd H' m', Evo m H m' H' → Rep G S B m' μ' H' → ExcR G x cls dd H' → W cls dd σ H'
  | .bad => False
def tT (G : Gb) (T : Tb) (b : Nat) (W : L2.WX) (e : E) : L2.TT := fun σ H Q => ∃ S B m μ ρ, (∀ x, B x → x ≤ b) ∧ Rep G S B m μ H ∧ EnvR G (av S m) m H σ ρ ∧ PostT G S B W m H σ Q (tst (evE T b e ρ μ))
def PostI (K : PySem.W.Frag) (G : Gb) (S : AP_) (B : Nat → Prop) (W : L2.WX) (m : List Addr) (H : Hp) (σ : L2.St) (Q : L2.It → Hp → Prop) : R Src → Prop
  | .ok s μ' => ∀ J H' m', Evo m H m' H' → Rep G S B m' μ' H' → SR K G S m' H' s J → Q J H'
  | .err x μ' => ∀ cls dd H' m', Evo m H m' H' → Rep G S B m' μ' H' → ExcR G x cls dd H' → W cls dd σ H'
  | .bad => False
def tI (K : PySem.W.Frag) (G : Gb) (T : Tb) (b : Nat) (W : L2.WX) (it : It) : L2.TI := fun σ H Q => ∃ S B m μ ρ, (∀ x, B x → x ≤ b) ∧ Rep G S B m μ H ∧ EnvR G (av S m) m H σ ρ ∧ PostI K G S B W m H σ Q (evIt T b it ρ μ)

section
variable {X : Cx} {G : Gb} {Tx : Tr} {T : Tb} {b : Nat} {W : L2.WX}
theorem _root_.L2.PE.mono {e : Expr} {t t' : TE} (h : PE X e t) (k : ∀ σ H Q, t' σ H Q → t σ H Q) : PE X e t' := ⟨fun pins s σ H Q I q => h.run pins s σ H Q I (k _ _ _ q)⟩
theorem _root_.L2.PT.mono {e : Expr} {t t' : L2.TT} (h : PT X e t) (k : ∀ σ H Q, t' σ H Q → t σ H Q) : PT X e t' := ⟨fun pins s σ H Q I q => h.run pins s σ H Q I (k _ _ _ q)⟩
theorem _root_.L2.PA.mono {e : List Expr} {t t' : L2.TA} (h : PA X e t) (k : ∀ σ H Q, t' σ H Q → t σ H Q) : PA X e t' := ⟨fun pos pins s σ H Q I q => h.run pos pins s σ H Q I (k _ _ _ q)⟩
theorem _root_.L2.PI.mono {tg e : Expr} {t t' : L2.TI} (h : PI X tg e t) (k : ∀ σ H Q, t' σ H Q → t σ H Q) : PI X tg e t' := ⟨fun pins s σ H Q I q => h.run pins s σ H Q I (k _ _ _ q)⟩
theorem pe_bad {e : Expr} : PE X e (tE G T b W .bad) := ⟨fun _ _ _ _ _ _ ⟨_, _, _, _, _, _, _, _, P⟩ => False.elim P⟩
theorem pt_bad {e : Expr} : PT X e (tT G T b W .bad) := ⟨fun _ _ _ _ _ _ ⟨_, _, _, _, _, _, _, _, P⟩ => False.elim P⟩

section
variable {S : AP_} {B : Nat → Prop} {m m1 : List Addr} {μ : Sto} {H H1 : Hp} {σ : L2.St}
theorem bindA {r : R (D × Nat)} {f : D × Nat → Sto → R (List D)} {Q : List V → Hp → Prop} {Q1 : V → Hp → Prop} (h : PostA G S B W m H σ Q (r.bind f))
    (k : ∀ (d : D × Nat) (μ1 : Sto) (v : V) (H1 : Hp) (m1 : List Addr), r = .ok d μ1 → Evo m H m1 H1 → Rep G S B m1 μ1 H1 → RV G (av S m1) m1 H1 v d.1 → PostA G S B W m1 H1 σ Q (f d μ1) → Q1 v H1) : PostE G S B W m H σ Q1 r := by
  cases r with
  | ok d μ1 =>
    intro v H1 m1 e R r _
    refine k d μ1 v H1 m1 rfl e R r ?_
    have h : PostA G S B W m H σ Q (f d μ1) := h
    cases q : f d μ1 with
    | ok ds μ2 => rw [q] at h; exact fun vs H' m' e1 R r => h vs H' m' (e.trans e1) R r
    | err x μ2 => rw [q] at h; exact fun c dd H' m' e1 R r => h c dd H' m' (e.trans e1) R r
    | bad => rw [q] at h; exact h
  | err x μ' => exact h
  | bad => exact h
theorem bindAE {r : R (List D)} {f : List D → Sto → R (D × Nat)} {Q : VK} {Q1 : List V → Hp → Prop} (h : PostE G S B W m H σ Q (r.bind f))
    (k : ∀ (ds : List D) (μ1 : Sto) (vs : List V) (H1 : Hp) (m1 : List Addr), r = .ok ds μ1 → Evo m H m1 H1 → Rep G S B m1 μ1 H1 → RVs G (av S m1) m1 H1 vs ds → PostE G S B W m1 H1 σ Q (f ds μ1) → Q1 vs H1) : PostA G S B W m H σ Q1 r := by
  cases r with
  | ok d μ1 => exact fun v H1 m1 e R r => k d μ1 v H1 m1 rfl e R r (PostE.shift e h)
  | err x μ' => exact h
  | bad => exact h
theorem bindAA {r : R (List D)} {f : List D → Sto → R (List D)} {Q Q1 : List V → Hp → Prop} (h : PostA G S B W m H σ Q (r.bind f))
    (k : ∀ (ds : List D) (μ1 : Sto) (vs : List V) (H1 : Hp) (m1 : List Addr), r = .ok ds μ1 → Evo m H m1 H1 → Rep G S B m1 μ1 H1 → RVs G (av S m1) m1 H1 vs ds → PostA G S B W m1 H1 σ Q (f ds μ1) → Q1 vs H1) : PostA G S B W m H σ Q1 r := by
  cases r with
  | ok d μ1 =>
    intro v H1 m1 e R r
    refine k d μ1 v H1 m1 rfl e R r ?_
    have h : PostA G S B W m H σ Q (f d μ1) := h
    cases q : f d μ1 with
    | ok ds μ2 => rw [q] at h; exact fun vs H' m' e1 R r => h vs H' m' (e.trans e1) R r
    | err x μ2 => rw [q] at h; exact fun c dd H' m' e1 R r => h c dd H' m' (e.trans e1) R r
    | bad => rw [q] at h; exact h
  | err x μ' => exact h
  | bad => exact h
theorem PostT.shift {r : R Bool} {Q : Bool → Hp → Prop} (e : Evo m H m1 H1) (h : PostT G S B W m H σ Q r) : PostT G S B W m1 H1 σ Q r := by
  cases r with
  | ok k μ' => exact fun H' m' e1 R => h H' m' (e.trans e1) R
  | err x μ' => exact fun c dd H' m' e1 R r => h c dd H' m' (e.trans e1) R r
  | bad => exact h
theorem bindT {r : R (D × Nat)} {f : D × Nat → Sto → R Bool} {Q : Bool → Hp → Prop} {Q1 : V → Hp → Prop} (h : PostT G S B W m H σ Q (r.bind f))
    (k : ∀ (d : D × Nat) (μ1 : Sto) (v : V) (H1 : Hp) (m1 : List Addr), r = .ok d μ1 → Evo m H m1 H1 → Rep G S B m1 μ1 H1 → RV G (av S m1) m1 H1 v d.1 → PostT G S B W m1 H1 σ Q (f d μ1) → Q1 v H1) : PostE G S B W m H σ Q1 r := by
  cases r with
  | ok d μ1 => exact fun v H1 m1 e R r _ => k d μ1 v H1 m1 rfl e R r (PostT.shift e h)
  | err x μ' => exact h
  | bad => exact h
theorem bindTT {r : R (D × Nat)} {Q : VK} {f : Bool → Sto → R (D × Nat)} {Q1 : Bool → Hp → Prop} (h : PostE G S B W m H σ Q ((tst r).bind f))
    (k : ∀ (c : Bool) (μ1 : Sto) (H1 : Hp) (m1 : List Addr), tst r = .ok c μ1 → Evo m H m1 H1 → Rep G S B m1 μ1 H1 → PostE G S B W m1 H1 σ Q (f c μ1) → Q1 c H1) : PostT G S B W m H σ Q1 (tst r) := by
  cases q : tst r with
  | ok d μ1 => rw [q] at h; exact fun H1 m1 e R => k d μ1 H1 m1 q e R (PostE.shift e h)
  | err x μ' => rw [q] at h; exact h
  | bad => rw [q] at h; exact h
theorem PostI.shift {K : PySem.W.Frag} {r : R Src} {Q : L2.It → Hp → Prop} (e : Evo m H m1 H1) (h : PostI K G S B W m H σ Q r) : PostI K G S B W m1 H1 σ Q r := by
  cases r with
  | ok k μ' => exact fun J H' m' e1 R => h J H' m' (e.trans e1) R
  | err x μ' => exact fun c dd H' m' e1 R r => h c dd H' m' (e.trans e1) R r
  | bad => exact h
theorem bindI {K : PySem.W.Frag} {r : R (D × Nat)} {f : D × Nat → Sto → R Src} {Q : L2.It → Hp → Prop} {Q1 : V → Hp → Prop} (h : PostI K G S B W m H σ Q (r.bind f))
    (k : ∀ (d : D × Nat) (μ1 : Sto) (v : V) (H1 : Hp) (m1 : List Addr), r = .ok d μ1 → Evo m H m1 H1 → Rep G S B m1 μ1 H1 → RV G (av S m1) m1 H1 v d.1 → PostI K G S B W m1 H1 σ Q (f d μ1) → Q1 v H1) : PostE G S B W m H σ Q1 r := by
  cases r with
  | ok d μ1 => exact fun v H1 m1 e R r _ => k d μ1 v H1 m1 rfl e R r (PostI.shift e h)
  | err x μ' => exact h
  | bad => exact h
end

/-! ### one rule a form -/
theorem r_bin (hK : X.K = G.K) (hd : DivOk X) {a c : Expr} {ea ec : E} {op : Operator} {pos : Pos} (ha : PE X a (tE G T b W ea)) (hc : PE X c (tE G T b W ec)) : PE X (.BinOp a op c pos) (tE G T b W (.bin op ea ec)) := by
  refine (pe_op (op_bin (G := G) hK hd op) ha hc).mono fun σ H Q ⟨S, B, m, μ, ρ, hB, R, V, P⟩ => ⟨S, B, m, μ, ρ, hB, R, V, ?_⟩
  refine PostE.bind P fun d μ1 v H1 m1 _ e1 R1 r1 _ P1 => ⟨S, B, m1, μ1, ρ, hB, R1, V.evo e1, ?_⟩
  exact PostE.bind P1 fun d2 μ2 v2 H2 m2 _ e2 R2 r2 _ P2 => ⟨S, B, W, m2, μ2, σ, _, _, R2, r1.evo e2, r2, P2⟩
theorem r_cmp {a c : Expr} {ea ec : E} {op : CmpOp} {pos : Pos} (hK : X.K = G.K) (hu : X.A.units + 64 < cLine) (hs : isSet c = false) (ha : PE X a (tE G T b W ea)) (hc : PE X c (tE G T b W ec)) : PE X (.Compare a [op] [c] pos) (tE G T b W (.cmp op ea ec)) := by
  have hm : behindInMarks op c = false := by cases c <;> first | rfl | cases hs
  refine (pe_cmpR (op_cmp (G := G) hK hu op) ha hc hm).mono fun σ H Q ⟨S, B, m, μ, ρ, hB, R, V, P⟩ => ⟨S, B, m, μ, ρ, hB, R, V, ?_⟩
  refine PostE.bind P fun d μ1 v H1 m1 _ e1 R1 r1 _ P1 => ⟨S, B, m1, μ1, ρ, hB, R1, V.evo e1, ?_⟩
  exact PostE.bind P1 fun d2 μ2 v2 H2 m2 _ e2 R2 r2 _ P2 => ⟨S, B, W, m2, μ2, σ, _, _, R2, r1.evo e2, r2, P2⟩
theorem PostT.of {S : AP_} {B : Nat → Prop} {m : List Addr} {H : Hp} {σ : L2.St} {r : R (D × Nat)} {Q : Bool → Hp → Prop} (h : PostT G S B W m H σ Q (tst r)) (hb : ∀ d μ, r = .ok d μ → ∃ k, d.1 = .bl k) : PostE G S B W m H σ (fun x H' => ∃ k, x = .bl k ∧ Q k H') r := by
  cases r with
  | ok d μ =>
    obtain ⟨k, e⟩ := hb d μ rfl
    intro v H' m' e1 R r _
    rw [e] at r
    cases r
    have h : PostT G S B W m H σ Q (okR (truD μ d.1) μ) := h
    rw [e] at h
    exact ⟨k, rfl, h H' m' e1 R⟩
  | err x μ => exact h
  | bad => exact h
theorem bind_ok {α β : Type} {r : R α} {f : α → Sto → R β} {y : β} {μ2 : Sto} (h : r.bind f = .ok y μ2) : ∃ x μ1, r = .ok x μ1 ∧ f x μ1 = .ok y μ2 := by
  cases r with
  | ok x μ1 => exact ⟨x, μ1, rfl, h⟩
  | err x μ1 => cases h
  | bad => cases h
theorem sh_ok {o : Option D} {μ μ2 : Sto} {d : D × Nat} (h : sh o μ = .ok d μ2) : o = some d.1 ∧ μ2 = μ := by
  cases o with
  | none => cases h
  | some x => cases h; exact ⟨rfl, rfl⟩
theorem cmp_bl {op : CmpOp} {ea ec : E} {ρ : Ev} {μ : Sto} : ∀ d μ', evE T b (.cmp op ea ec) ρ μ = .ok d μ' → ∃ k, d.1 = .bl k := fun d μ' h => by
  obtain ⟨x, μ1, _, h⟩ := bind_ok h
  obtain ⟨y, μ2, _, h⟩ := bind_ok h
  obtain ⟨h, _⟩ := sh_ok h
  obtain ⟨k, _, e⟩ := map_some h
  exact ⟨k, e⟩
theorem r_cmpT {a c : Expr} {ea ec : E} {op : CmpOp} {pos : Pos} (hK : X.K = G.K) (hu : X.A.units + 64 < cLine) (hs : isSet c = false) (ha : PE X a (tE G T b W ea)) (hc : PE X c (tE G T b W ec)) : PT X (.Compare a [op] [c] pos) (tT G T b W (.cmp op ea ec)) := by
  have hm : behindInMarks op c = false := by cases c <;> first | rfl | cases hs
  refine (pt_cmpR (op_cmp (G := G) hK hu op) ha hc hm).mono fun σ H Q ⟨S, B, m, μ, ρ, hB, R, V, P⟩ => ⟨S, B, m, μ, ρ, hB, R, V, ?_⟩
  have P := PostT.of P cmp_bl
  refine PostE.bind P fun d μ1 v H1 m1 _ e1 R1 r1 _ P1 => ⟨S, B, m1, μ1, ρ, hB, R1, V.evo e1, ?_⟩
  exact PostE.bind P1 fun d2 μ2 v2 H2 m2 _ e2 R2 r2 _ P2 => ⟨S, B, W, m2, μ2, σ, _, _, R2, r1.evo e2, r2, P2⟩
theorem notSets {c g : Expr} {op op2 : CmpOp} (h : isSet g = false) : lastMarks [op, op2] [c, g] = false := by
  show behindInMarks op2 g = false
  cases g <;> first | rfl | cases h
theorem cmp2_tail {S : AP_} {B : Nat → Prop} {m : List Addr} {μ : Sto} {H : Hp} {σ : L2.St} {ρ : Ev} {Q : VK} {x y : V} {d e : D} {op op2 : CmpOp} {eg : E} (hB : ∀ x, B x → x ≤ b) (R : Rep G S B m μ H) (V : EnvR G (av S m) m H σ ρ) (rx : RV G (av S m) m H x d) (ry : RV G (av S m) m H y e)
    (P : PostE G S B W m H σ Q (match cmpD op d e μ with
      | some true => (evE T b eg ρ μ).bind fun g μ3 => sh ((cmpD op2 e g.1 μ3).map .bl) μ3
      | some false => .ok (.bl false, 0) μ
      | none => .bad)) :
    rP2 G (fun a b μ => sh ((cmpD op a b μ).map .bl) μ) x y H fun z H3 => ∃ k, z = .bl k ∧ (if k = true then tE G T b W eg σ H3 fun w' H4 => rP2 G (fun a b μ => sh ((cmpD op2 a b μ).map .bl) μ) y w' H4 Q else Q (.bl false) H3) := by
  refine ⟨S, B, W, m, μ, σ, d, e, R, rx, ry, ?_⟩
  show PostE _ _ _ _ _ _ _ _ (sh ((cmpD op d e μ).map .bl) μ)
  cases q : cmpD op d e μ with
  | none => rw [q] at P; exact P
  | some k =>
    rw [q] at P
    intro z H3 m3 e3 R3 r3 _
    cases r3
    refine ⟨k, rfl, ?_⟩
    cases k with
    | false => exact iteF (PostE.val (PostE.shift e3 P) R3 (.bl false))
    | true =>
      refine iteT ⟨S, B, m3, μ, ρ, hB, R3, V.evo e3, ?_⟩
      refine PostE.bind (PostE.shift e3 P) fun g μ4 v4 H4 m4 _ e4 R4 r4 _ P4 => ⟨S, B, W, m4, μ4, σ, _, _, R4, (ry.evo e3).evo e4, r4, P4⟩
theorem r_cmp2 {a c g : Expr} {ea ec eg : E} {op op2 : CmpOp} {pos : Pos} (hK : X.K = G.K) (hu : X.A.units + 64 < cLine) (hs : isSet g = false) (ha : PE X a (tE G T b W ea)) (hc : PE X c (tE G T b W ec)) (hg : PE X g (tE G T b W eg)) :
    PE X (.Compare a [op, op2] [c, g] pos) (tE G T b W (.cmp2 op op2 ea ec eg)) := by
  refine (pe_chain (op_cmp (G := G) hK hu op) (op_cmp (G := G) hK hu op2) ha hc hg (notSets hs)).mono fun σ H Q ⟨S, B, m, μ, ρ, hB, R, V, P⟩ => ⟨S, B, m, μ, ρ, hB, R, V, ?_⟩
  refine PostE.bind P fun d μ1 v H1 m1 _ e1 R1 r1 _ P1 => ⟨S, B, m1, μ1, ρ, hB, R1, V.evo e1, ?_⟩
  exact PostE.bind P1 fun d2 μ2 v2 H2 m2 _ e2 R2 r2 _ P2 => cmp2_tail hB R2 ((V.evo e1).evo e2) (r1.evo e2) r2 P2
theorem cmp2_bl {op op2 : CmpOp} {ea ec eg : E} {ρ : Ev} {μ : Sto} : ∀ d μ', evE T b (.cmp2 op op2 ea ec eg) ρ μ = .ok d μ' → ∃ k, d.1 = .bl k := fun d μ' h => by
  obtain ⟨x, μ1, _, h⟩ := bind_ok h
  obtain ⟨y, μ2, _, h⟩ := bind_ok h
  have h : (match cmpD op x.1 y.1 μ2 with
      | some true => (evE T b eg ρ μ2).bind fun g μ3 => sh ((cmpD op2 y.1 g.1 μ3).map .bl) μ3
      | some false => .ok (.bl false, 0) μ2
      | none => .bad) = .ok d μ' := h
  split at h
  · obtain ⟨z, μ3, _, h⟩ := bind_ok h
    obtain ⟨h, _⟩ := sh_ok h
    obtain ⟨k, _, e⟩ := map_some h
    exact ⟨k, e⟩
  · cases h; exact ⟨false, rfl⟩
  · cases h
theorem r_cmp2T {a c g : Expr} {ea ec eg : E} {op op2 : CmpOp} {pos : Pos} (hK : X.K = G.K) (hu : X.A.units + 64 < cLine) (hs : isSet g = false) (ha : PE X a (tE G T b W ea)) (hc : PE X c (tE G T b W ec)) (hg : PE X g (tE G T b W eg)) :
    PT X (.Compare a [op, op2] [c, g] pos) (tT G T b W (.cmp2 op op2 ea ec eg)) := by
  refine (pt_chain (op_cmp (G := G) hK hu op) (op_cmp (G := G) hK hu op2) ha hc hg (notSets hs)).mono fun σ H Q ⟨S, B, m, μ, ρ, hB, R, V, P⟩ => ⟨S, B, m, μ, ρ, hB, R, V, ?_⟩
  have P := PostT.of P cmp2_bl
  refine PostE.bind P fun d μ1 v H1 m1 _ e1 R1 r1 _ P1 => ⟨S, B, m1, μ1, ρ, hB, R1, V.evo e1, ?_⟩
  exact PostE.bind P1 fun d2 μ2 v2 H2 m2 _ e2 R2 r2 _ P2 => cmp2_tail hB R2 ((V.evo e1).evo e2) (r1.evo e2) r2 P2
theorem r_neg {a : Expr} {ea : E} {pos : Pos} (ha : PE X a (tE G T b W ea)) : PE X (.UnaryOp .USub a pos) (tE G T b W (.neg ea)) := by
  refine (pe_un un_neg ha).mono fun σ H Q ⟨S, B, m, μ, ρ, hB, R, V, P⟩ => ⟨S, B, m, μ, ρ, hB, R, V, ?_⟩
  exact PostE.bind P fun d μ1 v H1 m1 _ e1 R1 r1 _ P1 => un_negR R1 r1 P1
theorem r_not (hK : X.K = G.K) {a : Expr} {ea : E} {pos : Pos} (ha : PE X a (tE G T b W ea)) : PE X (.UnaryOp .Not a pos) (tE G T b W (.not ea)) := by
  refine (pe_notT ha).mono fun σ H Q ⟨S, B, m, μ, ρ, hB, R, V, P⟩ => ⟨S, B, m, μ, ρ, hB, R, V, ?_⟩
  refine PostE.bind P fun d μ1 v H1 m1 _ e1 R1 r1 _ P1 => ?_
  have P1 : PostE G S B W m1 H1 σ Q (sh ((truD μ1 d.1).map fun k => .bl !k) μ1) := P1
  cases q : truD μ1 d.1 with
  | none => rw [q] at P1; exact False.elim P1
  | some k => rw [q] at P1; exact ⟨k, hK ▸ tru_at R1 r1 q, P1.val R1 (.bl _)⟩
theorem r_and (hK : X.K = G.K) {a c : Expr} {rest : List Expr} {ea ec : E} {pos : Pos} (ha : PE X a (tE G T b W ea)) (hc : PE X (.BoolOp .And (c :: rest) pos) (tE G T b W ec)) : PE X (.BoolOp .And (a :: c :: rest) pos) (tE G T b W (.and ea ec)) := by
  refine (pe_andT ha hc).mono fun σ H Q ⟨S, B, m, μ, ρ, hB, R, V, P⟩ => ⟨S, B, m, μ, ρ, hB, R, V, ?_⟩
  refine PostE.bind P fun d μ1 v H1 m1 _ e1 R1 r1 _ P1 => ?_
  have P1 : PostE G S B W m1 H1 σ Q (match truD μ1 d.1 with | some true => evE T b ec ρ μ1 | some false => .ok (d.1, 0) μ1 | none => .bad) := P1
  cases q : truD μ1 d.1 with
  | none => rw [q] at P1; exact False.elim P1
  | some k =>
    rw [q] at P1
    refine ⟨k, hK ▸ tru_at R1 r1 q, ?_⟩
    cases k with
    | true => exact iteT ⟨S, B, m1, μ1, ρ, hB, R1, V.evo e1, P1⟩
    | false => exact iteF (P1.val R1 r1)
theorem r_or (hK : X.K = G.K) {a c : Expr} {rest : List Expr} {ea ec : E} {pos : Pos} (ha : PE X a (tE G T b W ea)) (hc : PE X (.BoolOp .Or (c :: rest) pos) (tE G T b W ec)) : PE X (.BoolOp .Or (a :: c :: rest) pos) (tE G T b W (.or ea ec)) := by
  refine (pe_orT ha hc).mono fun σ H Q ⟨S, B, m, μ, ρ, hB, R, V, P⟩ => ⟨S, B, m, μ, ρ, hB, R, V, ?_⟩
  refine PostE.bind P fun d μ1 v H1 m1 _ e1 R1 r1 _ P1 => ?_
  have P1 : PostE G S B W m1 H1 σ Q (match truD μ1 d.1 with | some false => evE T b ec ρ μ1 | some true => .ok (d.1, 0) μ1 | none => .bad) := P1
  cases q : truD μ1 d.1 with
  | none => rw [q] at P1; exact False.elim P1
  | some k =>
    rw [q] at P1
    refine ⟨k, hK ▸ tru_at R1 r1 q, ?_⟩
    cases k with
    | false => exact iteF ⟨S, B, m1, μ1, ρ, hB, R1, V.evo e1, P1⟩
    | true => exact iteT (P1.val R1 r1)
theorem r_ife {t a c : Expr} {et ea ec : E} {pos : Pos} (ht : PT X t (tT G T b W et)) (ha : PE X a (tE G T b W ea)) (hc : PE X c (tE G T b W ec)) : PE X (.IfExp t a c pos) (tE G T b W (.ife et ea ec)) := by
  refine (pe_ifExp ht ha hc).mono fun σ H Q ⟨S, B, m, μ, ρ, hB, R, V, P⟩ => ⟨S, B, m, μ, ρ, hB, R, V, ?_⟩
  have P : PostE G S B W m H σ Q ((tst (evE T b et ρ μ)).bind fun k μ1 => if k = true then evE T b ea ρ μ1 else evE T b ec ρ μ1) := by
    have P : PostE G S B W m H σ Q ((evE T b et ρ μ).bind fun d μ1 => match truD μ1 d.1 with | some true => evE T b ea ρ μ1 | some false => evE T b ec ρ μ1 | none => .bad) := P
    cases q : evE T b et ρ μ with
    | ok d μ1 =>
      rw [q] at P
      have P : PostE G S B W m H σ Q (match truD μ1 d.1 with | some true => evE T b ea ρ μ1 | some false => evE T b ec ρ μ1 | none => .bad) := P
      show PostE G S B W m H σ Q ((okR (truD μ1 d.1) μ1).bind _)
      cases q2 : truD μ1 d.1 with
      | none => rw [q2] at P; exact P
      | some k =>
        rw [q2] at P
        cases k with
        | true => exact P
        | false => exact P
    | err x μ1 => rw [q] at P; exact P
    | bad => rw [q] at P; exact P
  refine bindTT P fun k μ1 H1 m1 _ e1 R1 P1 => ?_
  cases k with
  | true => exact iteT ⟨S, B, m1, μ1, ρ, hB, R1, V.evo e1, by simpa using P1⟩
  | false => exact iteF ⟨S, B, m1, μ1, ρ, hB, R1, V.evo e1, by simpa using P1⟩
end
end VM

set_option Elab.async false
set_option maxRecDepth 100000
set_option autoImplicit false
set_option linter.unusedVariables false
/-! expressions: names, lists, calls -/
namespace VM
open PySem PySem.Spec PyProof.Rows L2
section
variable {X : Cx} {G : Gb} {Tx : Tr} {T : Tb} {b : Nat} {W : L2.WX}
theorem r_ix (hK : X.K = G.K) {a c : Expr} {ea ec : E} {pos : Pos} (hc' : PlainIx c) (ha : PE X a (tE G T b W ea)) (hc : PE X c (tE G T b W ec)) : PE X (.Subscript a c pos) (tE G T b W (.ix ea ec)) := by
  refine (pe_ix (ix_rule (G := G) hK) ha hc hc').mono fun σ H Q ⟨S, B, m, μ, ρ, hB, R, V, P⟩ => ⟨S, B, m, μ, ρ, hB, R, V, ?_⟩
  refine PostE.bind P fun d μ1 v H1 m1 _ e1 R1 r1 _ P1 => ⟨S, B, m1, μ1, ρ, hB, R1, V.evo e1, ?_⟩
  exact PostE.bind P1 fun d2 μ2 v2 H2 m2 _ e2 R2 r2 _ P2 => ⟨S, B, W, m2, μ2, σ, _, _, R2, r1.evo e2, r2, P2⟩
/-- a part of a slice -/
def tPo (G : Gb) (T : Tb) (b : Nat) (W : L2.WX) (e : E) : TO := fun σ H Q => ∃ S B m μ ρ, (∀ x, B x → x ≤ b) ∧ Rep G S B m μ H ∧ EnvR G (av S m) m H σ ρ ∧ PostE G S B W m H σ (fun x H' => ∃ o, (x = .non ∧ o = none ∨ ∃ i, x = .int i ∧ o = some i) ∧ Q o H') (evE T b e ρ μ)
theorem po_at {o : Option Expr} {e : E} (h : match o with | none => e = .npart | some c => PE X c (tE G T b W e)) : PO X o (tPo G T b W e) := by
  cases o with
  | none =>
    have h : e = .npart := h
    subst h
    refine ⟨fun pins s σ H Q I ⟨S, B, m, μ, ρ, hB, R, V, P⟩ => ?_⟩
    refine po_none.run pins s σ H Q I ?_
    obtain ⟨o, h1, h2⟩ := PostE.val P R .non
    rcases h1 with ⟨_, rfl⟩ | ⟨i, e, _⟩
    · exact h2
    · cases e
  | some c =>
    have h : PE X c (tE G T b W e) := h
    refine ⟨fun pins s σ H Q I ⟨S, B, m, μ, ρ, hB, R, V, P⟩ => ?_⟩
    have h2 := h.run pins s σ H (fun x H' => ∃ o, (x = .non ∧ o = none ∨ ∃ i, x = .int i ∧ o = some i) ∧ Q o H') I ⟨S, B, m, μ, ρ, hB, R, V, P⟩
    show wpAny (model X.prog X.w) X.A (evalPart (some c) X.env) _ X.xe s
    rw [evalPart_some]
    refine thn h2 fun u s1 ⟨x, H1, I1, r1, o, h1, q⟩ => ?_
    rcases h1 with ⟨rfl, rfl⟩ | ⟨i, rfl, rfl⟩
    · cases r1
      exact ⟨none, H1, I1, IsPart.none, q⟩
    · obtain ⟨t, rfl⟩ := r1
      exact ⟨some i, H1, I1, IsPart.int i t, q⟩
theorem part_at {S : AP_} {m : List Addr} {H : Hp} {v : V} {d : D} {o : Option Int} (r : RV G (av S m) m H v d) (h : partD d = some o) : (v = .non ∧ o = none ∨ ∃ i, v = .int i ∧ o = some i) := by
  cases r with
  | non => cases h; exact .inl ⟨rfl, rfl⟩
  | int i => cases h; exact .inr ⟨_, rfl, rfl⟩
  | _ => cases h
theorem r_slc (hK : X.K = G.K) {a : Expr} {lo hi : Option Expr} {ea el eh : E} {pos p2 : Pos} (ha : PE X a (tE G T b W ea)) (hl : match lo with | none => el = .npart | some c => PE X c (tE G T b W el)) (hh : match hi with | none => eh = .npart | some c => PE X c (tE G T b W eh)) :
    PE X (.Subscript a (.Slice lo hi none p2) pos) (tE G T b W (.slc ea el eh)) := by
  refine (pe_slice sl_list ha (po_at hl) (po_at hh)).mono fun σ H Q ⟨S, B, m, μ, ρ, hB, R, VV, P⟩ => ⟨S, B, m, μ, ρ, hB, R, VV, ?_⟩
  refine PostE.bind P fun d μ1 v H1 m1 _ e1 R1 r1 _ P1 => ⟨S, B, m1, μ1, ρ, hB, R1, VV.evo e1, ?_⟩
  refine PostE.bind P1 fun l μ2 v2 H2 m2 _ e2 R2 r2 _ P2 => ?_
  have P2 : PostE G S B W m2 H2 σ Q (match partD l.1 with
    | none => .bad
    | some lv => (evE T b eh ρ μ2).bind fun h μ3 => match partD h.1 with
      | none => .bad
      | some hv => slD d.1 lv hv μ3) := P2
  cases hl2 : partD l.1 with
  | none => rw [hl2] at P2; exact False.elim P2
  | some o =>
    rw [hl2] at P2
    refine ⟨o, part_at r2 hl2, S, B, m2, μ2, ρ, hB, R2, (VV.evo e1).evo e2, ?_⟩
    refine PostE.bind P2 fun h μ3 v3 H3 m3 _ e3 R3 r3 _ P3 => ?_
    have P3 : PostE G S B W m3 H3 σ Q (match partD h.1 with | none => .bad | some hv => slD d.1 o hv μ3) := P3
    cases hh2 : partD h.1 with
    | none => rw [hh2] at P3; exact False.elim P3
    | some o2 =>
      rw [hh2] at P3
      exact ⟨o2, part_at r3 hh2, hK ▸ sl_at R3 ((r1.evo e2).evo e3) P3⟩

/-! argument lists -/
theorem star_cons {e : Expr} {es : List Expr} {env : Env} (h : isStar e = false) : starEach (e :: es) env = (false, eval e env) :: starEach es env := by
  cases e <;> first | rfl | cases h
theorem star_any {env : Env} {pos : Pos} : ∀ {es : List Expr}, es.any isStar = false → (backTo pos (starEach es env)).any (·.1) = false
  | [], _ => rfl
  | e :: es, h => by
    rw [List.any_cons, Bool.or_eq_false_iff] at h
    rw [star_cons h.1]
    exact star_any h.2
theorem star_all {env : Env} {pos : Pos} : ∀ {es : List Expr}, es.any isStar = false → (backTo pos (starEach es env)).all (fun x => !x.1) = true
  | [], _ => rfl
  | e :: es, h => by
    rw [List.any_cons, Bool.or_eq_false_iff] at h
    rw [star_cons h.1]
    exact star_all h.2
theorem r_args {f : Expr → E} : ∀ {es : List Expr}, es.any isStar = false → (∀ e ∈ es, PE X e (tE G T b W (f e))) → PA X es (tA G T b W (esOf (es.map f)))
  | [], _, _ => pa_nil.mono fun σ H Q ⟨S, B, m, μ, ρ, hB, R, VV, P⟩ => P [] H m (Evo.refl m H) R .nil
  | e :: es, hs, h => by
    rw [List.any_cons, Bool.or_eq_false_iff] at hs
    refine (pa_cons (h e List.mem_cons_self) (r_args hs.2 fun x hx => h x (List.mem_cons_of_mem _ hx)) (star_cons hs.1)).mono fun σ H Q ⟨S, B, m, μ, ρ, hB, R, VV, P⟩ => ⟨S, B, m, μ, ρ, hB, R, VV, ?_⟩
    have P : PostA G S B W m H σ Q ((evE T b (f e) ρ μ).bind fun d μ1 => (evEs T b (esOf (es.map f)) ρ μ1).bind fun ds μ2 => .ok (d.1 :: ds) μ2) := P
    refine bindA P fun d μ1 v H1 m1 _ e1 R1 r1 P1 => ⟨S, B, m1, μ1, ρ, hB, R1, VV.evo e1, ?_⟩
    exact bindAA P1 fun ds μ2 vs H2 m2 _ e2 R2 t2 P2 => P2 (v :: vs) H2 m2 (Evo.refl m2 H2) R2 (.cons (r1.evo e2) t2)
theorem r_lst {es : List Expr} {ir : Es} {pos : Pos} (ha : PA X es (tA G T b W ir)) : PE X (.List es pos) (tE G T b W (.lst ir)) := by
  refine (pe_lst ha).mono fun σ H Q ⟨S, B, m, μ, ρ, hB, R, VV, P⟩ => ⟨S, B, m, μ, ρ, hB, R, VV, ?_⟩
  refine bindAE P fun ds μ1 vs H1 m1 _ e1 R1 t1 P1 => ?_
  have P1 : PostE G S B W m1 H1 σ Q (if ds.length ≤ sizeLine then .ok (.lst ds, 1) μ1 else .bad) := P1
  obtain ⟨hz, P1⟩ := ifR P1 id
  exact ⟨by rw [t1.length]; exact hz, fun p hp => P1.newL R1 t1 hp⟩
theorem r_tup {es : List Expr} {ir : Es} {pos : Pos} {k : Nat} (ha : PA X es (tA G T b W ir)) : PE X (.Tuple es k pos) (tE G T b W (.tup ir)) := by
  refine (pe_tup ha).mono fun σ H Q ⟨S, B, m, μ, ρ, hB, R, VV, P⟩ => ⟨S, B, m, μ, ρ, hB, R, VV, ?_⟩
  refine bindAE P fun ds μ1 vs H1 m1 _ e1 R1 t1 P1 => ?_
  have P1 : PostE G S B W m1 H1 σ Q (if ds.length ≤ sizeLine then .ok (.tup ds, 0) μ1 else .bad) := P1
  obtain ⟨hz, P1⟩ := ifR P1 id
  exact ⟨by rw [t1.length]; exact hz, fun p hp => P1.newT R1 t1 hp⟩
theorem r_call (Gd : Good X G Tx T) (tk : L2N.Takes X W) {x : Str} {e : Expr} {es : List Expr} {ir : Es} {p pos : Pos} (hd : Tx.defs.contains x = true) (hg : Gl X x) (hdb : (x == ("__debug__" : Str)) = false) (hs : (e :: es).any isStar = false) (ha : PA X (e :: es) (tA G T b W ir)) :
    PE X (.Call (.Name x p) (e :: es) [] pos) (tE G T b W (.call x ir)) := by
  obtain ⟨fa, fd, ps, k, hm, hk, F, hr, hb, hn⟩ := Gd.call x hd
  rw [List.any_cons, Bool.or_eq_false_iff] at hs
  refine (pe_callS (E := WE W) F hr hg hm hk hb (fun σ => L2N.passAt tk σ) ha hdb (star_cons hs.1) (star_any hs.2)).mono fun σ H Q ⟨S, B, m, μ, ρ, hB, R, VV, P⟩ => ⟨S, B, m, μ, ρ, hB, R, VV, ?_⟩
  refine bindAE P fun ds μ1 vs H1 m1 _ e1 R1 t1 P1 => ?_
  have P1 : PostE G S B W m1 H1 σ Q (T.call x b ds μ1) := P1
  have hnb : T.call x b ds μ1 ≠ .bad := fun z => by rw [z] at P1; exact P1
  refine ⟨by rw [t1.length]; exact hn b ds μ1 hnb, S, B, b, m1, μ1, ds, hB, R1, t1, ?_⟩
  cases q : T.call x b ds μ1 with
  | ok d μ2 => rw [q] at P1; exact P1
  | err y μ2 => rw [q] at P1; exact P1
  | bad => exact absurd q hnb
theorem arm_call_sub {a i : Expr} {p2 pos : Pos} {args : List Expr} {env : Env} : eval (.Call (.Subscript a i p2) args [] pos) env = (do
    callWith pos (← eval (.Subscript a i p2) env) [] (backTo pos (starEach args env)) (backToKw pos (keywordEach [] env))) := rfl
/-- a function out of a list, called -/
theorem r_calld (Gd : Good X G Tx T) (tk : L2N.Takes X W) {a i e : Expr} {es : List Expr} {ef : E} {ir : Es} {p2 pos : Pos} (hf : PE X (.Subscript a i p2) (tE G T b W ef)) (hs : (e :: es).any isStar = false) (ha : PA X (e :: es) (tA G T b W ir)) :
    PE X (.Call (.Subscript a i p2) (e :: es) [] pos) (tE G T b W (.calld ef ir)) := by
  rw [List.any_cons, Bool.or_eq_false_iff] at hs
  refine ⟨fun pins s σ H Q I ⟨S, B, m, μ, ρ, hB, R, VV, P⟩ => ?_⟩
  rw [arm_call_sub]
  refine wpAny_bind ?_
  have P : PostE G S B W m H σ Q ((evE T b ef ρ μ).bind fun d μ1 => match d.1 with
    | .fn x => (noErr (evEs T b ir ρ μ1)).bind fun ds μ2 => T.call x b ds μ2
    | _ => .bad) := P
  refine thn (hf.run pins s σ H (fun v H1 => ∃ (x : Str) (μ1 : Sto) (m1 : List Addr), G.f x = some v ∧ Evo m H m1 H1 ∧ Rep G S B m1 μ1 H1 ∧ PostE G S B W m1 H1 σ Q ((noErr (evEs T b ir ρ μ1)).bind fun ds μ2 => T.call x b ds μ2)) I ⟨S, B, m, μ, ρ, hB, R, VV, PostE.bind P fun d μ1 v H1 m1 _ e1 R1 r1 _ P1 => ?_⟩) fun u s1 ⟨v, H1, I1, rv, x, μ1, m1, hx, e1, R1, P1⟩ => ?_
  · obtain ⟨d, f⟩ := d
    cases d with
    | fn x =>
      cases r1 with
      | fn hx => exact ⟨x, μ1, m1, hx, e1, R1, P1⟩
    | _ => exact False.elim P1
  · cases q : evEs T b ir ρ μ1 with
    | err y μ3 => rw [q] at P1; exact False.elim P1
    | bad => rw [q] at P1; exact False.elim P1
    | ok ds μ2 =>
      rw [q] at P1
      have P1 : PostE G S B W m1 H1 σ Q (T.call x b ds μ2) := P1
      have hnb : T.call x b ds μ2 ≠ .bad := fun z => by rw [z] at P1; exact P1
      obtain ⟨fa, fd, ps, k, rfl, hk, F, hr, hb, hn⟩ := Gd.calld x v hx ⟨b, ds, μ2, hnb⟩
      obtain rfl : u = Value.ref fa := rv
      have P2 : PostE G S B W m1 H1 σ Q ((evEs T b ir ρ μ1).bind fun ds μ2 => T.call x b ds μ2) := by rw [q]; exact P1
      refine PySem.W.callWith_K (h₀ := X.base) I1.ok.mod.kin hk (thn (ha.run pos pins s1 σ H1 (fun vs H2 => spF G ps.length (T.call x) vs H2 Q (WE W σ)) I1 ⟨S, B, m1, μ1, ρ, hB, R1, VV.evo e1, bindAE P2 fun ds μ2 vs H2 m2 _ e2 R2 t2 P3 => ?_⟩) fun us s2 ⟨vs, H2, I2, r, q⟩ => ⟨I2.kIn, ?_⟩) (star_cons hs.1) (star_any hs.2)
      · have P3 : PostE G S B W m2 H2 σ Q (T.call x b ds μ2) := P3
        have hnb : T.call x b ds μ2 ≠ .bad := fun z => by rw [z] at P3; exact P3
        refine ⟨by rw [t2.length]; exact hn b ds μ2 hnb, S, B, b, m2, μ2, ds, hB, R2, t2, ?_⟩
        cases q : T.call x b ds μ2 with
        | ok d μ2 => rw [q] at P3; exact P3
        | err y μ2 => rw [q] at P3; exact P3
        | bad => exact absurd q hnb
      · exact run_fnS F hr hb (L2N.passAt tk σ) I2 r q
theorem boots : ∀ x ∈ (["len", "abs", "max", "min", "all", "any", "sum", "isinstance"] : List Str), bootBuiltins x = some (.builtin (String.ofList (x.cps.toList.map Char.ofNat))) := by decide +kernel
theorem r_biF {x : Str} {id : String} {f : List D → Sto → R (D × Nat)} {e : Expr} {es : List Expr} {ir : Es} {p pos : Pos} (hf : ∀ ds μ, biD x ds μ = f ds μ) (hr : CallR X (.builtin id) (rC G f)) (hv : bootBuiltins x = some (.builtin id)) (hn : x ≠ "__name__") (hdb : (x == ("__debug__" : Str)) = false)
    (hg : Gl X x) (hm : X.mg x = none) (hs : (e :: es).any isStar = false) (ha : PA X (e :: es) (tA G T b W ir)) : PE X (.Call (.Name x p) (e :: es) [] pos) (tE G T b W (.bi x ir)) := by
  rw [List.any_cons, Bool.or_eq_false_iff] at hs
  refine (pe_callB hr hg hm hv ha hn hdb (star_cons hs.1) (star_any hs.2)).mono fun σ H Q ⟨S, B, m, μ, ρ, hB, R, VV, P⟩ => ⟨S, B, m, μ, ρ, hB, R, VV, ?_⟩
  refine bindAE P fun ds μ1 vs H1 m1 _ e1 R1 t1 P1 => ⟨S, B, W, m1, μ1, σ, ds, R1, t1, ?_⟩
  have P1 : PostE G S B W m1 H1 σ Q (biD x ds μ1) := P1
  rw [hf] at P1; exact P1
theorem r_biT {x : Str} {id : String} {f : List D → Sto → R (D × Nat)} {e : Expr} {es : List Expr} {ir : Es} {p pos : Pos} (hf : ∀ ds μ, biD x ds μ = f ds μ) (hr : CallR X (.type id) (rC G f)) (hv : bootBuiltins x = some (.type id)) (hn : x ≠ "__name__") (hdb : (x == ("__debug__" : Str)) = false)
    (hg : Gl X x) (hm : X.mg x = none) (hs : (e :: es).any isStar = false) (ha : PA X (e :: es) (tA G T b W ir)) : PE X (.Call (.Name x p) (e :: es) [] pos) (tE G T b W (.bi x ir)) := by
  rw [List.any_cons, Bool.or_eq_false_iff] at hs
  refine (pe_callTy hr hg hm hv ha hn hdb (star_cons hs.1) (star_any hs.2)).mono fun σ H Q ⟨S, B, m, μ, ρ, hB, R, VV, P⟩ => ⟨S, B, m, μ, ρ, hB, R, VV, ?_⟩
  refine bindAE P fun ds μ1 vs H1 m1 _ e1 R1 t1 P1 => ⟨S, B, W, m1, μ1, σ, ds, R1, t1, ?_⟩
  have P1 : PostE G S B W m1 H1 σ Q (biD x ds μ1) := P1
  rw [hf] at P1; exact P1
theorem r_bi (Gd : Good X G Tx T) {x : Str} {e : Expr} {es : List Expr} {ir : Es} {p pos : Pos} (hx : biNames.contains x = true) (hg : Gl X x) (hs : (e :: es).any isStar = false) (ha : PA X (e :: es) (tA G T b W ir)) : PE X (.Call (.Name x p) (e :: es) [] pos) (tE G T b W (.bi x ir)) := by
  have hm : X.mg x = none := Gd.bi x (List.mem_append_left _ (by simpa using hx))
  have hx : x ∈ biNames := by simpa using hx
  simp only [biNames, List.mem_cons, List.not_mem_nil, or_false] at hx
  rcases hx with rfl | rfl | rfl | rfl | rfl | rfl | rfl | rfl | rfl | rfl | rfl | rfl
  · exact r_biF (f := lenD) (fun _ _ => rfl) (callLen Gd.eqK) (by decide +kernel) (by decide) (by decide) hg hm hs ha
  · exact r_biT (f := intD) (fun _ _ => rfl) callInt (by decide +kernel) (by decide) (by decide) hg hm hs ha
  · exact r_biF (f := absD) (fun _ _ => rfl) callAbs (by decide +kernel) (by decide) (by decide) hg hm hs ha
  · exact r_biF (f := maxD) (fun _ _ => rfl) (callMax Gd.calm Gd.eqK) (by decide +kernel) (by decide) (by decide) hg hm hs ha
  · exact r_biF (f := minD) (fun _ _ => rfl) (callMin Gd.calm Gd.eqK) (by decide +kernel) (by decide) (by decide) hg hm hs ha
  · exact r_biT (f := listD) (fun _ _ => rfl) (callList Gd.eqK) (by decide +kernel) (by decide) (by decide) hg hm hs ha
  · exact r_biT (f := tupleD) (fun _ _ => rfl) (callTuple Gd.eqK) (by decide +kernel) (by decide) (by decide) hg hm hs ha
  · exact r_biF (f := allD) (fun _ _ => rfl) (callAll Gd.calm) (by decide +kernel) (by decide) (by decide) hg hm hs ha
  · exact r_biF (f := anyD) (fun _ _ => rfl) (callAny Gd.calm) (by decide +kernel) (by decide) (by decide) hg hm hs ha
  · exact r_biF (f := sumD) (fun _ _ => rfl) (callSum Gd.calm) (by decide +kernel) (by decide) (by decide) hg hm hs ha
  · exact r_biF (f := isinD) (fun _ _ => rfl) (callIsin Gd.eqK) (by decide +kernel) (by decide) (by decide) hg hm hs ha
  · exact r_biF (f := sortD) (fun _ _ => rfl) (callSorted Gd.eqK) (by decide +kernel) (by decide) (by decide) hg hm hs ha
theorem r_str (Gd : Good X G Tx T) {e : Expr} {es : List Expr} {ir : Es} {p pos : Pos} (hg : Gl X "str") (hs : (e :: es).any isStar = false) (ha : PA X (e :: es) (tA G T b W ir)) : PE X (.Call (.Name "str" p) (e :: es) [] pos) (tE G T b W (.bi (if Tx.cs then "str*" else "str") ir)) := by
  have hm : X.mg "str" = none := Gd.bi "str" (by simp)
  rw [List.any_cons, Bool.or_eq_false_iff] at hs
  split
  · rename_i hc
    refine (pe_callTy (callStrA (G := G) Gd.eqK (Gd.gd hc) Gd.hu) hg hm (by decide +kernel) ha (by decide) (by decide) (star_cons hs.1) (star_any hs.2)).mono fun σ H Q ⟨S, B, m, μ, ρ, hB, R, VV, P⟩ => ⟨S, B, m, μ, ρ, hB, R, VV, ?_⟩
    exact bindAE P fun ds μ1 vs H1 m1 _ e1 R1 t1 P1 => ⟨S, B, W, m1, μ1, σ, ds, R1, t1, P1⟩
  · refine (pe_callTy (callStr (G := G)) hg hm (by decide +kernel) ha (by decide) (by decide) (star_cons hs.1) (star_any hs.2)).mono fun σ H Q ⟨S, B, m, μ, ρ, hB, R, VV, P⟩ => ⟨S, B, m, μ, ρ, hB, R, VV, ?_⟩
    exact bindAE P fun ds μ1 vs H1 m1 _ e1 R1 t1 P1 => ⟨S, B, W, m1, μ1, σ, ds, R1, t1, P1⟩
theorem slot_at {N : List Str} {x : Str} : ∀ {i : Nat}, slotOf N x = some i → N[i]? = some x := by
  induction N with
  | nil => intro i h; cases h
  | cons y r ih =>
    intro i h
    unfold slotOf at h
    by_cases e : y = x
    · rw [if_pos e] at h; cases h; rw [e]; rfl
    · rw [if_neg e] at h
      obtain ⟨j, hj, rfl⟩ := map_some h
      exact ih hj
theorem r_var {i : Nat} {x : Str} {pos : Pos} (hN : X.N[i]? = some x) (hv : Vis X.env.scope x) (hd : (x == ("__debug__" : Str)) = false) (hcd : (x == ("__classdict__" : Str)) = false) : PE X (.Name x pos) (tE G T b W (.var i)) := by
  refine (pe_var hN hv hd hcd).mono fun σ H Q ⟨S, B, m, μ, ρ, hB, R, VV, P⟩ => ?_
  have P : PostE G S B W m H σ Q (match ρ[i]? with | some (some d) => .ok (d, 0) μ | _ => .bad) := P
  split at P
  · rename_i d h
    obtain ⟨v, e, r⟩ := VV.at_ i d h
    exact ⟨v, e, P.val R r⟩
  · exact False.elim P
theorem r_glob (Gd : Good X G Tx T) {x : Str} {pos : Pos} (hg : Gl X x) (hd : (x == ("__debug__" : Str)) = false) : PE X (.Name x pos) (tE G T b W (.glob x)) := by
  cases q : T.glob x with
  | none =>
    refine ⟨fun pins s σ H Q I ⟨S, B, m, μ, ρ, hB, R, VV, P⟩ => ?_⟩
    have P : PostE G S B W m H σ Q (sh (T.glob x) μ) := P
    rw [q] at P; exact False.elim P
  | some d =>
    obtain ⟨v, u, h, rv, r⟩ := Gd.gl x d q
    have fin : ∀ σ H Q, tE G T b W (.glob x) σ H Q → tC v σ H Q := fun σ H Q ⟨S, B, m, μ, ρ, hB, R, VV, P⟩ => by
      have P : PostE G S B W m H σ Q (sh (T.glob x) μ) := P
      rw [q] at P
      exact P.val R (r _ _ _)
    rcases h with h | ⟨h1, h2, h3⟩
    · exact (pe_glob hg h rv hd).mono fin
    · exact (pe_bltn hg h1 h2 rv h3 hd).mono fin
theorem thaw_imp {ir : E} {σ : L2.St} {H : Hp} {Q : VK} (h : tE G T b W (.thaw ir) σ H Q) : tE G T b W ir σ H Q := by
  obtain ⟨S, B, m, μ, ρ, hB, R, VV, P⟩ := h
  refine ⟨S, B, m, μ, ρ, hB, R, VV, ?_⟩
  have P : PostE G S B W m H σ Q ((evE T b ir ρ μ).bind fun d μ1 => match d with | (.lst xs, f + 1) => .ok (.cell μ1.length, 0) (μ1 ++ [.lst xs]) | _ => .bad) := P
  cases q : evE T b ir ρ μ with
  | bad => rw [q] at P; exact P
  | err x μ1 => rw [q] at P; exact P
  | ok d μ1 =>
    rw [q] at P
    obtain ⟨d, f⟩ := d
    have P : PostE G S B W m H σ Q (match (d, f) with | (.lst xs, f + 1) => .ok (.cell μ1.length, 0) (μ1 ++ [.lst xs]) | _ => .bad) := P
    intro v H1 m1 e1 R1 r1 nw
    cases d with
    | lst xs =>
      cases f with
      | zero => exact False.elim P
      | succ f =>
        obtain ⟨L, nd, hL, own, hk⟩ := nw
        cases own with
        | flat z _ => cases z
        | @lst _ a vs _ L h1 own =>
          have hn : ¬ av S m1 a := (hL a List.mem_cons_self).2
          have hx : ∀ x, ¬ avL S m1 (a :: L) x → ¬ avx S m1 a x := fun x n z => n (z.elim .inl fun z => .inr (by rw [z]; exact List.mem_cons_self))
          have t : RVs G (avx S m1 a) m1 H1 vs xs := own.rv hx fun x hx2 z => z.elim (hL x (List.mem_cons_of_mem _ hx2)).2 fun z => (List.nodup_cons.mp nd).1 (z ▸ hx2)
          have hk : ∀ (l : Nat) (b : Addr) (c : C), m1[l]? = some b → μ1[l]? = some c → CR G (avx S m1 a) m1 H1 b c := fun l b c e1 e2 => (hk l b c e1 e2).imp (fun _ _ e => e) (fun x o e n => ⟨e, hx x n⟩) fun _ e => e
          have P : PostE G S B W m H σ Q (.ok (.cell μ1.length, 0) (μ1 ++ [.lst xs])) := P
          have R2 := R1.thaw h1 hn t hk
          have r2 : RV G (av S (m1 ++ [a])) (m1 ++ [a]) H1 (.ref a) (.cell μ1.length) := .cell (by rw [← R1.len, List.getElem?_append_right (Nat.le_refl _)]; simp)
          refine P (.ref a) H1 (m1 ++ [a]) ⟨?_, fun x o hxo nx => ?_, e1.dom⟩ R2 r2 (.zero R2 r2)
          · obtain ⟨w, rfl⟩ := e1.ext; exact ⟨w ++ [a], by simp⟩
          · obtain ⟨h2, n2⟩ := e1.keep x o hxo nx
            refine ⟨h2, fun z => ?_⟩
            rcases List.mem_append.mp z with z | z
            · exact n2 z
            · have : x = a := by simpa using z
              subst this
              rw [(hL x List.mem_cons_self).1] at hxo; cases hxo
    | _ => exact False.elim P
theorem r_thaw {e : Expr} {ir : E} (h : PE X e (tE G T b W ir)) : PE X e (tE G T b W (.thaw ir)) := h.mono fun σ H Q q => thaw_imp q
def A3 (S : AP_) (m L : List Addr) (R_ : AP_) : AP_ := fun x => av S m x ∨ x ∈ L ∨ R_ x
structure Th (G : Gb) (S : AP_) (B : Nat → Prop) (R_ : AP_) (m : List Addr) (μ : Sto) (H : Hp) (L : List Addr) : Prop where
  rep : Rep G S B m μ H
  cr : ∀ (l : Nat) (b : Addr) (c : C), m[l]? = some b → μ[l]? = some c → CR G (A3 S m L R_) m H b c
  ne : ∀ a, R_ a → ¬ av S m a
  own : ∀ a ∈ L, ¬ av S m a ∧ ¬ R_ a
  nd : L.Nodup
structure ThO (G : Gb) (S : AP_) (B : Nat → Prop) (R_ : AP_) (m : List Addr) (H : Hp) (L m' : List Addr) (μ' : Sto) : Prop where
  ext : ∃ e, m' = m ++ e ∧ ∀ a ∈ e, a ∈ L
  th : Th G S B R_ m' μ' H []
section
variable {S : AP_} {B : Nat → Prop} {H : Hp}
theorem Th.stay {R_ : AP_} {m : List Addr} {μ : Sto} {L : List Addr} (t : Th G S B R_ m μ H L) : ThO G S B R_ m H L m μ :=
  ⟨⟨[], by simp, fun _ h => by cases h⟩, t.rep, fun l b c h1 h2 => (t.cr l b c h1 h2).imp (fun _ _ e => e) (fun a o e n => ⟨e, fun z => n (z.elim .inl fun z => z.elim (fun z => by cases z) fun z => .inr (.inr z))⟩) fun _ e => e, t.ne, fun _ h => (by cases h), List.nodup_nil⟩
theorem Th.rv {R_ : AP_} {m : List Addr} {μ : Sto} {L : List Addr} (t : Th G S B R_ m μ H L) {f : Nat} {v : V} {d : D} (o : OwnV G (A3 S m L R_) m H f L v d) : RV G (A3 S m [] R_) m H v d :=
  o.rv (fun a n z => n (z.elim .inl fun z => z.elim (fun z => by cases z) fun z => .inr (.inr z))) fun a h z => z.elim (t.own a h).1 fun z => z.elim (fun z => by cases z) (t.own a h).2
/-- what keeps away from all keeps away behind it -/
theorem ThO.av {R_ : AP_} {m m' : List Addr} {μ' : Sto} {L : List Addr} (t : ThO G S B R_ m H L m' μ') : ∀ a, ¬ A3 S m L R_ a → ¬ A3 S m' [] R_ a := fun a n z => by
  obtain ⟨e, rfl, he⟩ := t.ext
  rcases z with z | z | z
  · rcases z with z | z
    · exact n (.inl (.inl z))
    · rcases List.mem_append.mp z with z | z
      · exact n (.inl (.inr z))
      · exact n (.inr (.inl (he a z)))
  · cases z
  · exact n (.inr (.inr z))
theorem ThO.at {R_ : AP_} {m m' : List Addr} {μ' : Sto} {L : List Addr} (t : ThO G S B R_ m H L m' μ') {l : Nat} {a : Addr} (h : m[l]? = some a) : m'[l]? = some a := by
  obtain ⟨e, rfl, he⟩ := t.ext
  rw [List.getElem?_append_left (List.getElem?_eq_some_iff.mp h).1]; exact h
abbrev ThE (G : Gb) (S : AP_) (B : Nat → Prop) (H : Hp) (f : Nat) (g : D → Sto → D × Sto) : Prop := ∀ (R_ : AP_) (m : List Addr) (μ : Sto) (L : List Addr) (v : V) (d : D), Th G S B R_ m μ H L → OwnV G (A3 S m L R_) m H f L v d →
  ∃ m', ThO G S B R_ m H L m' (g d μ).2 ∧ RV G (A3 S m' [] R_) m' H v (g d μ).1
theorem thaw_list {f : Nat} {g : D → Sto → D × Sto} (hg : ThE G S B H f g) : ∀ (ds : List D) (R_ : AP_) (m : List Addr) (μ : Sto) (L : List Addr) (vs : List V), Th G S B R_ m μ H L → OwnVs G (A3 S m L R_) m H f L vs ds →
    ∃ m', ThO G S B R_ m H L m' (thawL g ds μ).2 ∧ RVs G (A3 S m' [] R_) m' H vs (thawL g ds μ).1
  | [], R_, m, μ, L, vs, t, o => by
    cases o
    exact ⟨m, t.stay, .nil⟩
  | d :: ds, R_, m, μ, L, vs, t, o => by
    cases o with
    | @cons _ L1 L2 v _ vs _ r q =>
      have nd := List.nodup_append.mp t.nd
      have sp : ∀ a, A3 S m (L1 ++ L2) R_ a ↔ A3 S m L1 (fun x => R_ x ∨ x ∈ L2) a := fun a => by
        unfold A3
        simp only [List.mem_append]
        exact ⟨fun z => z.elim .inl fun z => z.elim (fun z => z.elim (fun z => .inr (.inl z)) fun z => .inr (.inr (.inr z))) fun z => .inr (.inr (.inl z)), fun z => z.elim .inl fun z => z.elim (fun z => .inr (.inl (.inl z))) fun z => z.elim (fun z => .inr (.inr z)) fun z => .inr (.inl (.inr z))⟩
      have t1 : Th G S B (fun x => R_ x ∨ x ∈ L2) m μ H L1 := ⟨t.rep, fun l b c h1 h2 => (t.cr l b c h1 h2).imp (fun _ _ e => e) (fun a o e n => ⟨e, fun z => n ((sp a).mpr z)⟩) fun _ e => e, fun a z => z.elim (t.ne a) fun z => (t.own a (List.mem_append_right _ z)).1,
        fun a h => ⟨(t.own a (List.mem_append_left _ h)).1, fun z => z.elim (t.own a (List.mem_append_left _ h)).2 fun z => nd.2.2 a h a z rfl⟩, nd.1⟩
      obtain ⟨m1, o1, r1⟩ := hg _ m μ L1 v d t1 (r.imp (fun _ _ e => e) (fun a o e n => ⟨e, fun z => n ((sp a).mpr z)⟩) fun _ _ _ e => e)
      have s2 : ∀ a, A3 S m1 [] (fun x => R_ x ∨ x ∈ L2) a ↔ A3 S m1 L2 R_ a := fun a => by
        unfold A3
        exact ⟨fun z => z.elim .inl fun z => z.elim (fun z => by cases z) fun z => z.elim (fun z => .inr (.inr z)) fun z => .inr (.inl z), fun z => z.elim .inl fun z => z.elim (fun z => .inr (.inr (.inr z))) fun z => .inr (.inr (.inl z))⟩
      have t2 : Th G S B R_ m1 (g d μ).2 H L2 := ⟨o1.th.rep, fun l b c h1 h2 => (o1.th.cr l b c h1 h2).imp (fun _ _ e => e) (fun a o e n => ⟨e, fun z => n ((s2 a).mpr z)⟩) fun _ e => e, fun a z => o1.th.ne a (.inl z),
        fun a h => ⟨o1.th.ne a (.inr h), (t.own a (List.mem_append_right _ h)).2⟩, nd.2.1⟩
      obtain ⟨m2, o2, r2⟩ := thaw_list hg ds R_ m1 (g d μ).2 L2 vs t2 (q.imp (fun _ _ e => o1.at e) (fun a o e n => ⟨e, fun z => o1.av a (fun w => n ((sp a).mpr w)) ((s2 a).mpr z)⟩) fun _ _ _ e => e)
      refine ⟨m2, ⟨?_, o2.th⟩, .cons (r1.imp (fun _ _ e => o2.at e) fun a o e n => ⟨e, o2.av a fun z => n ((s2 a).mpr z)⟩) r2⟩
      obtain ⟨e1, rfl, h1⟩ := o1.ext
      obtain ⟨e2, rfl, h2⟩ := o2.ext
      exact ⟨e1 ++ e2, by simp, fun a h => (List.mem_append.mp h).elim (fun h => List.mem_append_left _ (h1 a h)) fun h => List.mem_append_right _ (h2 a h)⟩
theorem thaw_deep : ∀ (n f k : Nat), k ≤ f → ThE G S B H f (thawD n k)
  | 0, _, _, _ => fun R_ m μ L v d t o => ⟨m, t.stay, t.rv o⟩
  | _ + 1, _, 0, _ => fun R_ m μ L v d t o => ⟨m, t.stay, t.rv o⟩
  | n + 1, 0, k + 1, h => absurd h (by omega)
  | n + 1, f + 1, k + 1, h => fun R_ m μ L v d t o => by
    cases o with
    | flat e r =>
      have e2 : thawD (n + 1) (k + 1) d μ = (d, μ) := by cases d <;> first | rfl | cases e
      rw [e2]
      exact ⟨m, t.stay, t.rv (.flat (k := f) e r)⟩
    | @lst _ a vs ds L h1 q =>
      have nd := List.nodup_cons.mp t.nd
      have sp : ∀ x, A3 S m (a :: L) R_ x ↔ A3 S m L (fun x => R_ x ∨ x = a) x := fun x => by
        unfold A3
        simp only [List.mem_cons]
        exact ⟨fun z => z.elim .inl fun z => z.elim (fun z => z.elim (fun z => .inr (.inr (.inr z))) fun z => .inr (.inl z)) fun z => .inr (.inr (.inl z)), fun z => z.elim .inl fun z => z.elim (fun z => .inr (.inl (.inr z))) fun z => z.elim (fun z => .inr (.inr z)) fun z => .inr (.inl (.inl z))⟩
      have t1 : Th G S B (fun x => R_ x ∨ x = a) m μ H L := ⟨t.rep, fun l b c h1 h2 => (t.cr l b c h1 h2).imp (fun _ _ e => e) (fun x o e n => ⟨e, fun z => n ((sp x).mpr z)⟩) fun _ e => e, fun x z => z.elim (t.ne x) fun z => z ▸ (t.own a List.mem_cons_self).1,
        fun x hx => ⟨(t.own x (List.mem_cons_of_mem _ hx)).1, fun z => z.elim (t.own x (List.mem_cons_of_mem _ hx)).2 fun z => nd.1 (z ▸ hx)⟩, nd.2⟩
      obtain ⟨m1, o1, r1⟩ := thaw_list (thaw_deep n f k (by omega)) ds (fun x => R_ x ∨ x = a) m μ L vs t1 (q.imp (fun _ _ e => e) (fun x o e n => ⟨e, fun z => n ((sp x).mpr z)⟩) fun _ _ _ e => e)
      have hn : ¬ av S m1 a := o1.th.ne a (.inr rfl)
      have hx : ∀ x, ¬ A3 S m1 [] (fun x => R_ x ∨ x = a) x → ¬ avx S m1 a x := fun x n z => n (z.elim .inl fun z => .inr (.inr (.inr z)))
      have hx2 : ∀ x, ¬ A3 S m1 [] (fun x => R_ x ∨ x = a) x → ¬ A3 S (m1 ++ [a]) [] R_ x := fun x n z => n (by
        rcases z with z | z | z
        · rcases z with z | z
          · exact .inl (.inl z)
          · rcases List.mem_append.mp z with z | z
            · exact .inl (.inr z)
            · exact .inr (.inr (.inr (by simpa using z)))
        · cases z
        · exact .inr (.inr (.inl z)))
      have at_ : ∀ (l : Nat) (b : Addr), m1[l]? = some b → (m1 ++ [a])[l]? = some b := fun l b e => by
        rw [List.getElem?_append_left (List.getElem?_eq_some_iff.mp e).1]; exact e
      have R2 := o1.th.rep.thaw h1 hn (r1.imp (fun _ _ e => e) fun x o e n => ⟨e, hx x n⟩) fun l b c e1 e2 => (o1.th.cr l b c e1 e2).imp (fun _ _ e => e) (fun x o e n => ⟨e, hx x n⟩) fun _ e => e
      have len := o1.th.rep.len
      refine ⟨m1 ++ [a], ⟨?_, R2, fun l b c e1 e2 => ?_, fun x z w => ?_, fun _ h => (by cases h), List.nodup_nil⟩, .cell ?_⟩
      · obtain ⟨e, rfl, he⟩ := o1.ext
        exact ⟨e ++ [a], by simp, fun x h => (List.mem_append.mp h).elim (fun h => List.mem_cons_of_mem _ (he x h)) fun h => by simp at h; rw [h]; exact List.mem_cons_self⟩
      · have e2 : ((thawL (thawD n k) ds μ).2 ++ [C.lst (thawL (thawD n k) ds μ).1])[l]? = some c := e2
        by_cases hl : l < m1.length
        · rw [List.getElem?_append_left hl] at e1
          rw [List.getElem?_append_left (by rw [← len]; exact hl)] at e2
          exact (o1.th.cr l b c e1 e2).imp at_ (fun x o e n => ⟨e, hx2 x n⟩) fun _ e => e
        · have hl2 : l = m1.length := by
            have := (List.getElem?_eq_some_iff.mp e1).1
            simp at this; omega
          subst hl2
          rw [List.getElem?_append_right (Nat.le_refl _)] at e1
          rw [len, List.getElem?_append_right (Nat.le_refl _)] at e2
          simp at e1 e2
          subst e1; subst e2
          exact ⟨vs, h1, r1.imp at_ fun x o e n => ⟨e, hx2 x n⟩⟩
      · rcases w with w | w
        · exact o1.th.ne x (.inl z) (.inl w)
        · rcases List.mem_append.mp w with w | w
          · exact o1.th.ne x (.inl z) (.inr w)
          · have : x = a := by simpa using w
            subst this
            exact (t.own x List.mem_cons_self).2 z
      · show (m1 ++ [a])[(thawL (thawD n k) ds μ).2.length]? = _
        rw [← len, List.getElem?_append_right (Nat.le_refl _)]; simp
    | @tup _ a vs ds L h1 na q =>
      obtain ⟨m1, o1, r1⟩ := thaw_list (thaw_deep n (f + 1) (k + 1) h) ds R_ m μ L vs t q
      exact ⟨m1, ⟨o1.ext, o1.th⟩, .tup h1 (o1.av a na) r1⟩
end
theorem thawn_imp {k : Nat} {ir : E} {σ : L2.St} {H : Hp} {Q : VK} (h : tE G T b W (.thawn k ir) σ H Q) : tE G T b W ir σ H Q := by
  obtain ⟨S, B, m, μ, ρ, hB, R, VV, P⟩ := h
  refine ⟨S, B, m, μ, ρ, hB, R, VV, ?_⟩
  have P : PostE G S B W m H σ Q ((evE T b ir ρ μ).bind fun d μ1 => if k ≤ d.2 then .ok ((thawD 9 k d.1 μ1).1, 0) (thawD 9 k d.1 μ1).2 else .bad) := P
  cases q : evE T b ir ρ μ with
  | bad => rw [q] at P; exact P
  | err x μ1 => rw [q] at P; exact P
  | ok d μ1 =>
    rw [q] at P
    have P : PostE G S B W m H σ Q (if k ≤ d.2 then .ok ((thawD 9 k d.1 μ1).1, 0) (thawD 9 k d.1 μ1).2 else .bad) := P
    obtain ⟨hk, P⟩ := ifR P id
    intro v H1 m1 e1 R1 r1 nw
    obtain ⟨L, nd, hL, own, cr⟩ := nw
    have sp : ∀ a, ¬ avL S m1 L a → ¬ A3 S m1 L (fun _ => False) a := fun a n z => n (z.elim .inl fun z => z.elim .inr False.elim)
    have t : Th G S B (fun _ => False) m1 μ1 H1 L := ⟨R1, fun l b c h1 h2 => (cr l b c h1 h2).imp (fun _ _ e => e) (fun a o e n => ⟨e, sp a n⟩) fun _ e => e, fun _ z => z.elim, fun a h => ⟨(hL a h).2, fun z => z⟩, nd⟩
    obtain ⟨m2, o2, r2⟩ := thaw_deep 9 d.2 k hk _ m1 μ1 L v d.1 t (own.imp (fun _ _ e => e) (fun a o e n => ⟨e, sp a n⟩) fun _ _ _ e => e)
    have r3 : RV G (av S m2) m2 H1 v (thawD 9 k d.1 μ1).1 := r2.imp (fun _ _ e => e) fun a o e n => ⟨e, fun z => n (.inl z)⟩
    refine P v H1 m2 ⟨?_, fun x o hx nx => ?_, e1.dom⟩ o2.th.rep r3 (.zero o2.th.rep r3)
    · obtain ⟨w, rfl⟩ := e1.ext
      obtain ⟨e, rfl, _⟩ := o2.ext
      exact ⟨w ++ e, by simp⟩
    · obtain ⟨h2, n2⟩ := e1.keep x o hx nx
      refine ⟨h2, fun z => ?_⟩
      obtain ⟨e, rfl, he⟩ := o2.ext
      rcases List.mem_append.mp z with z | z
      · exact n2 z
      · rw [(hL x (he x z)).1] at hx; cases hx
theorem r_thawn {e : Expr} {k : Nat} {ir : E} (h : PE X e (tE G T b W ir)) : PE X e (tE G T b W (.thawn k ir)) := h.mono fun σ H Q q => thawn_imp q
theorem with_imp {ir : E} {p : Pos} {σ : L2.St} {H : Hp} {Q : VK} (h : tE G T b W (withTh Tx p ir) σ H Q) : tE G T b W ir σ H Q := by
  unfold withTh at h
  split at h
  · exact thaw_imp h
  · split at h
    · exact thawn_imp h
    · exact h
theorem r_with {e : Expr} {ir : E} {p : Pos} (h : PE X e (tE G T b W ir)) : PE X e (tE G T b W (withTh Tx p ir)) := h.mono fun σ H Q q => with_imp q
theorem r_rev {e : Expr} {ir : E} {k : Nat} {p1 p2 p3 pos : Pos} (he : PE X e (tE G T b W ir)) : PE X (.Subscript e (.Slice none none (some (.UnaryOp .USub (.Constant (.int 1) k p1) p2)) p3) pos) (tE G T b W (.rev ir)) := by
  refine (pe_revL he).mono fun σ H Q ⟨S, B, m, μ, ρ, hB, R, VV, P⟩ => ⟨S, B, m, μ, ρ, hB, R, VV, ?_⟩
  refine PostE.bind P fun d μ1 v H1 m1 _ e1 R1 r1 _ P1 => ?_
  have P1 : PostE G S B W m1 H1 σ Q (match itemsL μ1 d.1 with | some xs => .ok (.lst xs.reverse, 1) μ1 | none => .bad) := P1
  cases h : itemsL μ1 d.1 with
  | none => rw [h] at P1; exact False.elim P1
  | some xs =>
    rw [h] at P1
    obtain ⟨a, vs, rfl, hh, t⟩ := items_at R1 r1 h
    exact ⟨a, vs, rfl, .inl hh, fun p hp => P1.newL R1 (RVs.reverse t) hp⟩
end
end VM

set_option Elab.async false
set_option maxRecDepth 100000
set_option autoImplicit false
set_option linter.unusedVariables false
/-! methods of lists, tests, what is walked -/
namespace VM
open PySem PySem.Spec PyProof.Rows L2
section
variable {X : Cx} {G : Gb} {Tx : Tr} {T : Tb} {b : Nat} {W : L2.WX}
theorem base_plain {o : Expr} {m : Str} {env : Env} {whole : Sem Value} (h : simpleO o = true) : attributeBase o m env whole = whole := by
  cases o <;> first | rfl | cases h
abbrev rBM (G : Gb) (b : Nat) (f : Nat → Nat → List D → List D → Sto → R (D × Nat)) : V → List V → Hp → VK → Prop := fun x vs H Q => ∃ (S : AP_) (B : Nat → Prop) (W : L2.WX) (m : List Addr) (μ : Sto) (σ : L2.St) (l : Nat) (xs ds : List D), (∀ x, B x → x ≤ b) ∧ Rep G S B m μ H ∧ RV G (av S m) m H x (.cell l) ∧ μ[l]? = some (.lst xs) ∧ RVs G (av S m) m H vs ds ∧ PostE G S B W m H σ Q (f b l xs ds μ)
theorem tyV_list {K : PySem.W.Frag} {S : AP_} {B : Nat → Prop} {m : List Addr} {μ : Sto} {H : Hp} {v : V} {d : D} {xs : List D} (R : Rep G S B m μ H) (r : RV G (av S m) m H v d) (h : itemsL μ d = some xs) : tyV K "list" v H := by
  obtain ⟨a, vs, rfl, hh, _⟩ := items_at R r h
  exact .inl ⟨rfl, vs, .inl hh⟩
theorem bm_at {m' : Str} {f : Nat → Nat → List D → List D → Sto → R (D × Nat)} (hf : bmTab.lookup m' = some f) {S : AP_} {B : Nat → Prop} {m : List Addr} {μ : Sto} {H : Hp} {σ : L2.St} {Q : VK} {x : V} {vs : List V} {d : D} {ds : List D} (hB : ∀ x, B x → x ≤ b) (R : Rep G S B m μ H) (r : RV G (av S m) m H x d) (t : RVs G (av S m) m H vs ds)
    (P : PostE G S B W m H σ Q (bmD b m' d ds μ)) : rBM G b f x vs H Q := by
  unfold bmD at P
  rw [hf] at P
  cases r with
  | @cell l a hm =>
    have P : PostE G S B W m H σ Q (match μ[l]? with | some (.lst xs) => f b l xs ds μ | _ => .bad) := P
    split at P
    · rename_i xs h
      exact ⟨S, B, W, m, μ, σ, l, xs, ds, hB, R, .cell hm, h, t, P⟩
    · exact False.elim P
  | _ => exact False.elim P
theorem r_bm {o e : Expr} {es : List Expr} {eo : E} {ir : Es} {m : Str} {apos pos : Pos} {id : String} {f : Nat → Nat → List D → List D → Sto → R (D × Nat)} (hf : bmTab.lookup m = some f) (slot : Slot "list" m id) (hty : typeOf (.builtin id) = pure (.type "method_descriptor")) (hm : MtR X id (rBM G b f))
    (ho' : simpleO o = true) (hl : (apos.endLine == pos.line) = true) (hn : (e :: es).length < 30) (hs : (e :: es).any isStar = false) (ho : PE X o (tE G T b W eo)) (ha : PA X (e :: es) (tA G T b W ir)) :
    PE X (.Call (.Attribute o m apos) (e :: es) [] pos) (tE G T b W (.bm eo m ir)) := by
  have hs' := hs
  rw [List.any_cons, Bool.or_eq_false_iff] at hs
  have hfew : ((backTo pos (starEach (e :: es) X.env)).all (fun x => !x.1) && (backToKw pos (keywordEach [] X.env)).all (fun x => x.1.isSome) && decide ((e :: es).length + ([] : List Keyword).length + (if ([] : List Keyword).isEmpty then 0 else 1) < 30)) = true := by
    rw [star_all hs']
    show (true && true && decide ((e :: es).length + 0 + 0 < 30)) = true
    simpa using hn
  refine (pe_bm PySem.F.plainAttrs_list slot hty hm ho ha (base_plain ho') hfew hl (star_cons hs.1) (star_any hs.2)).mono fun σ H Q ⟨S, B, m', μ, ρ, hB, R, VV, P⟩ => ⟨S, B, m', μ, ρ, hB, R, VV, ?_⟩
  refine PostE.bind P fun d μ1 v H1 m1 _ e1 R1 r1 _ P1 => ?_
  have P1 : PostE G S B W m1 H1 σ Q (match itemsL μ1 d.1 with | none => .bad | some _ => (evEs T b ir ρ μ1).bind fun ds μ2 => bmD b m d.1 ds μ2) := P1
  cases h : itemsL μ1 d.1 with
  | none => rw [h] at P1; exact False.elim P1
  | some xs =>
    rw [h] at P1
    refine ⟨tyV_list R1 r1 h, S, B, m1, μ1, ρ, hB, R1, VV.evo e1, ?_⟩
    exact bindAE P1 fun ds μ2 vs H2 m2 _ e2 R2 t2 P2 => bm_at hf hB R2 (r1.evo e2) t2 P2
theorem r_bm0 {o : Expr} {eo : E} {m : Str} {apos pos : Pos} {id : String} {f : Nat → Nat → List D → List D → Sto → R (D × Nat)} (hf : bmTab.lookup m = some f) (slot : Slot "list" m id) (hty : typeOf (.builtin id) = pure (.type "method_descriptor")) (hm : MtR X id (rBM G b f))
    (ho' : simpleO o = true) (hl : (apos.endLine == pos.line) = true) (ho : PE X o (tE G T b W eo)) :
    PE X (.Call (.Attribute o m apos) [] [] pos) (tE G T b W (.bm eo m .nil)) := by
  refine (pe_bm0 PySem.F.plainAttrs_list slot hty hm ho (base_plain ho') hl).mono fun σ H Q ⟨S, B, m', μ, ρ, hB, R, VV, P⟩ => ⟨S, B, m', μ, ρ, hB, R, VV, ?_⟩
  refine PostE.bind P fun d μ1 v H1 m1 _ e1 R1 r1 _ P1 => ?_
  have P1 : PostE G S B W m1 H1 σ Q (match itemsL μ1 d.1 with | none => .bad | some _ => bmD b m d.1 [] μ1) := P1
  cases h : itemsL μ1 d.1 with
  | none => rw [h] at P1; exact False.elim P1
  | some xs =>
    rw [h] at P1
    exact ⟨tyV_list R1 r1 h, bm_at hf hB R1 r1 .nil P1⟩
theorem r_bms {o : Expr} {es : List Expr} {eo : E} {ir : Es} {m : Str} {apos pos : Pos} (h : bmNames.contains m = true) (ho' : simpleO o = true) (hl : (apos.endLine == pos.line) = true) (hn : es.length < 30) (hs : es.any isStar = false) (ho : PE X o (tE G T b W eo)) (ha : PA X es (tA G T b W ir)) (hi : es = [] → ir = .nil) :
    PE X (.Call (.Attribute o m apos) es [] pos) (tE G T b W (.bm eo m ir)) := by
  have h : m ∈ bmNames := by simpa using h
  simp only [bmNames, List.mem_cons, List.not_mem_nil, or_false] at h
  rcases h with rfl | rfl | rfl | rfl | rfl
  · cases es with
    | nil => rw [hi rfl]; exact r_bm0 (f := appendD) rfl PySem.F.slot_list_append PySem.F.type_list_append mtAppend ho' hl ho
    | cons e es => exact r_bm (f := appendD) rfl PySem.F.slot_list_append PySem.F.type_list_append mtAppend ho' hl hn hs ho ha
  · cases es with
    | nil => rw [hi rfl]; exact r_bm0 (f := popD) rfl PySem.F.slot_list_pop PySem.F.type_list_pop mtPop ho' hl ho
    | cons e es => exact r_bm (f := popD) rfl PySem.F.slot_list_pop PySem.F.type_list_pop mtPop ho' hl hn hs ho ha
  · cases es with
    | nil => rw [hi rfl]; exact r_bm0 (f := extendD) rfl PySem.F.slot_list_extend PySem.F.type_list_extend mtExtend ho' hl ho
    | cons e es => exact r_bm (f := extendD) rfl PySem.F.slot_list_extend PySem.F.type_list_extend mtExtend ho' hl hn hs ho ha
  · cases es with
    | nil => rw [hi rfl]; exact r_bm0 (f := insertD) rfl PySem.F.slot_list_insert PySem.F.type_list_insert mtInsert ho' hl ho
    | cons e es => exact r_bm (f := insertD) rfl PySem.F.slot_list_insert PySem.F.type_list_insert mtInsert ho' hl hn hs ho ha
  · cases es with
    | nil => rw [hi rfl]; exact r_bm0 (f := clearD) rfl PySem.F.slot_list_clear PySem.F.type_list_clear mtClear ho' hl ho
    | cons e es => exact r_bm (f := clearD) rfl PySem.F.slot_list_clear PySem.F.type_list_clear mtClear ho' hl hn hs ho ha

/-! tests -/
theorem r_truth (hK : X.K = G.K) {e : Expr} {ir : E} (h : PE X e (tE G T b W ir)) (he : ∀ whole, isTrue e X.env whole = (do let v ← whole; standAt e.pos; holding [v] (truthy v))) : PT X e (tT G T b W ir) := by
  refine (pt_truth h he).mono fun σ H Q ⟨S, B, m, μ, ρ, hB, R, VV, P⟩ => ⟨S, B, m, μ, ρ, hB, R, VV, ?_⟩
  refine bindT P fun d μ1 v H1 m1 _ e1 R1 r1 P1 => ?_
  have P1 : PostT G S B W m1 H1 σ Q (okR (truD μ1 d.1) μ1) := P1
  cases q : truD μ1 d.1 with
  | none => rw [q] at P1; exact False.elim P1
  | some k => rw [q] at P1; exact ⟨k, hK ▸ tru_at R1 r1 q, P1 H1 m1 (Evo.refl m1 H1) R1⟩
theorem tst_and {ea ec : E} {ρ : Ev} {μ : Sto} : tst (evE T b (.and ea ec) ρ μ) = (tst (evE T b ea ρ μ)).bind fun k μ1 => if k = true then tst (evE T b ec ρ μ1) else .ok false μ1 := by
  show tst ((evE T b ea ρ μ).bind fun d μ1 => match truD μ1 d.1 with | some true => evE T b ec ρ μ1 | some false => .ok (d.1, 0) μ1 | none => .bad) = _
  cases evE T b ea ρ μ with
  | ok d μ1 =>
    show tst (match truD μ1 d.1 with | some true => evE T b ec ρ μ1 | some false => .ok (d.1, 0) μ1 | none => .bad) = (okR (truD μ1 d.1) μ1).bind _
    cases q : truD μ1 d.1 with
    | none => rfl
    | some k =>
      cases k with
      | true => rfl
      | false => show okR (truD μ1 d.1) μ1 = .ok false μ1; rw [q]; rfl
  | err x μ1 => rfl
  | bad => rfl
theorem tst_or {ea ec : E} {ρ : Ev} {μ : Sto} : tst (evE T b (.or ea ec) ρ μ) = (tst (evE T b ea ρ μ)).bind fun k μ1 => if k = true then .ok true μ1 else tst (evE T b ec ρ μ1) := by
  show tst ((evE T b ea ρ μ).bind fun d μ1 => match truD μ1 d.1 with | some false => evE T b ec ρ μ1 | some true => .ok (d.1, 0) μ1 | none => .bad) = _
  cases evE T b ea ρ μ with
  | ok d μ1 =>
    show tst (match truD μ1 d.1 with | some false => evE T b ec ρ μ1 | some true => .ok (d.1, 0) μ1 | none => .bad) = (okR (truD μ1 d.1) μ1).bind _
    cases q : truD μ1 d.1 with
    | none => rfl
    | some k =>
      cases k with
      | false => rfl
      | true => show okR (truD μ1 d.1) μ1 = .ok true μ1; rw [q]; rfl
  | err x μ1 => rfl
  | bad => rfl
theorem tst_not {ea : E} {ρ : Ev} {μ : Sto} : tst (evE T b (.not ea) ρ μ) = (tst (evE T b ea ρ μ)).bind fun k μ1 => .ok (!k) μ1 := by
  show tst ((evE T b ea ρ μ).bind fun d μ1 => sh ((truD μ1 d.1).map fun k => .bl !k) μ1) = _
  cases evE T b ea ρ μ with
  | ok d μ1 =>
    show tst (sh ((truD μ1 d.1).map fun k => .bl !k) μ1) = (okR (truD μ1 d.1) μ1).bind _
    cases truD μ1 d.1 with
    | none => rfl
    | some k => rfl
  | err x μ1 => rfl
  | bad => rfl
theorem tst_ife {et ea ec : E} {ρ : Ev} {μ : Sto} : tst (evE T b (.ife et ea ec) ρ μ) = (tst (evE T b et ρ μ)).bind fun k μ1 => if k = true then tst (evE T b ea ρ μ1) else tst (evE T b ec ρ μ1) := by
  show tst ((evE T b et ρ μ).bind fun d μ1 => match truD μ1 d.1 with | some true => evE T b ea ρ μ1 | some false => evE T b ec ρ μ1 | none => .bad) = _
  cases evE T b et ρ μ with
  | ok d μ1 =>
    show tst (match truD μ1 d.1 with | some true => evE T b ea ρ μ1 | some false => evE T b ec ρ μ1 | none => .bad) = (okR (truD μ1 d.1) μ1).bind _
    cases truD μ1 d.1 with
    | none => rfl
    | some k => cases k <;> rfl
  | err x μ1 => rfl
  | bad => rfl
theorem bindTest {S : AP_} {B : Nat → Prop} {m : List Addr} {H : Hp} {σ : L2.St} {r : R Bool} {f : Bool → Sto → R Bool} {Q Q1 : Bool → Hp → Prop} (h : PostT G S B W m H σ Q (r.bind f))
    (k : ∀ (c : Bool) (μ1 : Sto) (H1 : Hp) (m1 : List Addr), r = .ok c μ1 → Evo m H m1 H1 → Rep G S B m1 μ1 H1 → PostT G S B W m1 H1 σ Q (f c μ1) → Q1 c H1) : PostT G S B W m H σ Q1 r := by
  cases r with
  | ok d μ1 => exact fun H1 m1 e R => k d μ1 H1 m1 rfl e R (PostT.shift e h)
  | err x μ' => exact h
  | bad => exact h
theorem PostT.now {S : AP_} {B : Nat → Prop} {m : List Addr} {μ : Sto} {H : Hp} {σ : L2.St} {k : Bool} {Q : Bool → Hp → Prop} (h : PostT G S B W m H σ Q (.ok k μ)) (R : Rep G S B m μ H) : Q k H := h H m (Evo.refl m H) R
theorem w_and {a c : Expr} {rest : List Expr} {ea ec : E} {pos : Pos} (ha : PT X a (tT G T b W ea)) (hc : PW X (.BoolOp .And (c :: rest) pos) (tT G T b W ec)) : PW X (.BoolOp .And (a :: c :: rest) pos) (tT G T b W (.and ea ec)) := by
  have h := pw_and ha hc
  refine ⟨fun wh pins s σ H Q I ⟨S, B, m, μ, ρ, hB, R, VV, P⟩ => h.run wh pins s σ H Q I ⟨S, B, m, μ, ρ, hB, R, VV, ?_⟩⟩
  rw [tst_and] at P
  refine bindTest P fun k μ1 H1 m1 _ e1 R1 P1 => ?_
  cases k with
  | true => exact iteT ⟨S, B, m1, μ1, ρ, hB, R1, VV.evo e1, by simpa using P1⟩
  | false => exact iteF (PostT.now (by simpa using P1) R1)
theorem w_or {a c : Expr} {rest : List Expr} {ea ec : E} {pos : Pos} (ha : PT X a (tT G T b W ea)) (hc : PW X (.BoolOp .Or (c :: rest) pos) (tT G T b W ec)) : PW X (.BoolOp .Or (a :: c :: rest) pos) (tT G T b W (.or ea ec)) := by
  have h := pw_or ha hc
  refine ⟨fun wh pins s σ H Q I ⟨S, B, m, μ, ρ, hB, R, VV, P⟩ => h.run wh pins s σ H Q I ⟨S, B, m, μ, ρ, hB, R, VV, ?_⟩⟩
  rw [tst_or] at P
  refine bindTest P fun k μ1 H1 m1 _ e1 R1 P1 => ?_
  cases k with
  | true => exact iteT (PostT.now (by simpa using P1) R1)
  | false => exact iteF ⟨S, B, m1, μ1, ρ, hB, R1, VV.evo e1, by simpa using P1⟩
theorem t_not {a : Expr} {ea : E} {pos : Pos} (ha : PT X a (tT G T b W ea)) : PT X (.UnaryOp .Not a pos) (tT G T b W (.not ea)) := by
  refine (pt_not ha).mono fun σ H Q ⟨S, B, m, μ, ρ, hB, R, VV, P⟩ => ⟨S, B, m, μ, ρ, hB, R, VV, ?_⟩
  rw [tst_not] at P
  exact bindTest P fun k μ1 H1 m1 _ e1 R1 P1 => PostT.now P1 R1
theorem pt_ifE {t a c : Expr} {tt ta tc : L2.TT} {pos : Pos} (ht : PT X t tt) (ha : PT X a ta) (hc : PT X c tc) : PT X (.IfExp t a c pos) (fun σ H Q => tt σ H fun k H1 => if k = true then ta σ H1 Q else tc σ H1 Q) := by
  refine ⟨fun pins s σ H Q I h => ?_⟩
  show wpAny (model X.prog X.w) X.A (do if ← isTrue t X.env (eval t X.env) then isTrue a X.env (eval a X.env) else isTrue c X.env (eval c X.env)) _ _ s
  refine wpAny_bind (thn (ht.run pins s σ H _ I h) fun k s1 ⟨H1, I1, q1⟩ => ?_)
  cases k with
  | true => exact ha.run pins s1 σ H1 Q I1 q1
  | false => exact hc.run pins s1 σ H1 Q I1 q1
theorem t_ife {t a c : Expr} {et ea ec : E} {pos : Pos} (ht : PT X t (tT G T b W et)) (ha : PT X a (tT G T b W ea)) (hc : PT X c (tT G T b W ec)) : PT X (.IfExp t a c pos) (tT G T b W (.ife et ea ec)) := by
  refine (pt_ifE ht ha hc).mono fun σ H Q ⟨S, B, m, μ, ρ, hB, R, VV, P⟩ => ⟨S, B, m, μ, ρ, hB, R, VV, ?_⟩
  rw [tst_ife] at P
  refine bindTest P fun k μ1 H1 m1 _ e1 R1 P1 => ?_
  cases k with
  | true => exact iteT ⟨S, B, m1, μ1, ρ, hB, R1, VV.evo e1, by simpa using P1⟩
  | false => exact iteF ⟨S, B, m1, μ1, ρ, hB, R1, VV.evo e1, by simpa using P1⟩

/-! what is walked -/
theorem src_at (hK : X.K = G.K) {S : AP_} {B : Nat → Prop} {m : List Addr} {μ : Sto} {H : Hp} {v : V} {d : D} {s : Src} (R : Rep G S B m μ H) (r : RV G (av S m) m H v d) (h : srcL μ d = some s) : ∃ a vs, v = .ref a ∧ SqL X.K H a vs ∧ LR G S m H s a := by
  cases r with
  | lst h1 n1 t1 => cases h; exact ⟨_, _, rfl, .inl h1, .data h1 n1 t1⟩
  | scr h1 => cases h; exact ⟨_, _, rfl, by rw [hK]; exact h1.elim (fun z => .inl z.1) .inr, .scr h1⟩
  | @cell l a hm =>
    have h' : (match μ[l]? with | some (C.lst _) => some (Src.cell l) | _ => none) = some s := h
    split at h'
    · rename_i q
      cases h'
      obtain ⟨vs, e, _⟩ := R.at_ l a _ hm q
      exact ⟨a, vs, rfl, .inl (.inl e), .cell hm⟩
    · cases h'
  | _ => cases h
theorem PI.or {tg e : Expr} {t1 t2 : L2.TI} (h1 : PI X tg e t1) (h2 : PI X tg e t2) : PI X tg e (fun σ H Q => t1 σ H Q ∨ t2 σ H Q) := ⟨fun pins s σ H Q I q => q.elim (h1.run pins s σ H Q I) (h2.run pins s σ H Q I)⟩
theorem i_ex (hK : X.K = G.K) {tg e : Expr} {ir : E} (h : PE X e (tE G T b W ir)) : PI X tg e (tI X.K G T b W (.ex ir)) := by
  refine (PI.or (pi_list h) (pi_tup h)).mono fun σ H Q ⟨S, B, m, μ, ρ, hB, R, VV, P⟩ => ?_
  have P : PostI X.K G S B W m H σ Q ((evE T b ir ρ μ).bind fun d μ1 => okR (match d.1 with | .tup xs => some (.data xs) | d => srcL μ1 d) μ1) := P
  have isl : (∀ d μ1, evE T b ir ρ μ = .ok d μ1 → ∀ xs, d.1 ≠ .tup xs) → iList X.K (tE G T b W ir) σ H Q := by
    intro hn
    refine ⟨S, B, m, μ, ρ, hB, R, VV, ?_⟩
    refine bindI P fun d μ1 v H1 m1 q e1 R1 r1 P1 => ?_
    have P1 : PostI X.K G S B W m1 H1 σ Q (okR (srcL μ1 d.1) μ1) := by
      have := hn d μ1 q
      obtain ⟨d, f⟩ := d
      cases d <;> first | exact P1 | exact absurd rfl (this _)
    cases hs : srcL μ1 d.1 with
    | none => rw [hs] at P1; exact False.elim P1
    | some s =>
      rw [hs] at P1
      obtain ⟨a, vs, rfl, hr, l⟩ := src_at hK R1 r1 hs
      exact ⟨a, rfl, ⟨vs, hr⟩, P1 _ H1 m1 (Evo.refl m1 H1) R1 (.lst l)⟩
  cases q : evE T b ir ρ μ with
  | ok d μ1 =>
    obtain ⟨d, f⟩ := d
    by_cases hd : ∃ xs, d = .tup xs
    · obtain ⟨xs, rfl⟩ := hd
      right
      refine ⟨S, B, m, μ, ρ, hB, R, VV, ?_⟩
      refine bindI P fun d' μ1' v H1 m1 q' e1 R1 r1 P1 => ?_
      rw [q] at q'
      cases q'
      have P1 : PostI X.K G S B W m1 H1 σ Q (.ok (.data xs) μ1) := P1
      cases r1 with
      | tup h1 n1 t1 => exact ⟨_, rfl, ⟨_, .of h1⟩, P1 _ H1 m1 (Evo.refl m1 H1) R1 (.tup h1 n1 t1)⟩
    · left
      refine isl fun d' μ1' q' xs e => hd ⟨xs, ?_⟩
      rw [q] at q'; cases q'; exact e
  | err x μ1 => exact .inl (isl fun d μ1 q' => by rw [q] at q'; cases q')
  | bad => exact .inl (isl fun d μ1 q' => by rw [q] at q'; cases q')
theorem i_rng1 {tg a : Expr} {ea : E} {p pos : Pos} (hg : Gl X "range") (hm : X.mg "range" = none) (hs : isStar a = false) (ha : PE X a (tE G T b W ea)) : PI X tg (.Call (.Name "range" p) [a] [] pos) (tI X.K G T b W (.rng1 ea)) := by
  refine (pi_range1 hg hm (pa_cons ha pa_nil (star_cons hs)) (star_cons hs)).mono fun σ H Q ⟨S, B, m, μ, ρ, hB, R, VV, P⟩ => ⟨S, B, m, μ, ρ, hB, R, VV, ?_⟩
  refine bindI P fun d μ1 v H1 m1 _ e1 R1 r1 P1 => ?_
  obtain ⟨d, f⟩ := d
  cases r1 with
  | int j =>
    have P1 : PostI X.K G S B W m1 H1 σ Q (if smallI j = true then .ok (.data (rangeD 0 j.toNat)) μ1 else .bad) := P1
    obtain ⟨hz, P1⟩ := ifR P1 id
    unfold smallI at hz
    simp only [Bool.and_eq_true, decide_eq_true_eq] at hz
    exact ⟨j, rfl, hz.1, hz.2, P1 _ H1 m1 (Evo.refl m1 H1) R1 (.rng _ _)⟩
  | _ => exact False.elim P1
theorem i_rng2 {tg a c : Expr} {ea ec : E} {p pos : Pos} (hg : Gl X "range") (hm : X.mg "range" = none) (hs : isStar a = false) (hs2 : isStar c = false) (ha : PE X a (tE G T b W ea)) (hc : PE X c (tE G T b W ec)) : PI X tg (.Call (.Name "range" p) [a, c] [] pos) (tI X.K G T b W (.rng2 ea ec)) := by
  refine (pi_range2 hg hm (pa_cons ha (pa_cons hc pa_nil (star_cons hs2)) (star_cons hs)) ((star_cons hs).trans (congrArg _ (star_cons hs2))) (star_cons hs2)).mono fun σ H Q ⟨S, B, m, μ, ρ, hB, R, VV, P⟩ => ⟨S, B, m, μ, ρ, hB, R, VV, ?_⟩
  refine bindI P fun d μ1 v H1 m1 _ e1 R1 r1 P1 => ⟨S, B, m1, μ1, ρ, hB, R1, VV.evo e1, ?_⟩
  refine bindI P1 fun d2 μ2 v2 H2 m2 _ e2 R2 r2 P2 => ?_
  obtain ⟨d, f⟩ := d
  obtain ⟨d2, f2⟩ := d2
  cases r1 with
  | int i =>
    cases r2 with
    | int j =>
      have P2 : PostI X.K G S B W m2 H2 σ Q (if (smallI i && smallI j) = true then .ok (.data (rangeD i (j - i).toNat)) μ2 else .bad) := P2
      obtain ⟨hz, P2⟩ := ifR P2 id
      unfold smallI at hz
      simp only [Bool.and_eq_true, decide_eq_true_eq] at hz
      exact ⟨i, j, rfl, ⟨hz.1.1, hz.1.2, hz.2.1, hz.2.2⟩, P2 _ H2 m2 (Evo.refl m2 H2) R2 (.rng _ _)⟩
    | _ => exact False.elim P2
  | _ => exact False.elim P2
theorem i_zip (hK : X.K = G.K) {es : List Expr} {k : Nat} {tp : Pos} {a c : Expr} {ea ec : E} {p pos : Pos} (hg : Gl X "zip") (hm : X.mg "zip" = none) (hs : isStar a = false) (hs2 : isStar c = false) (ha : PE X a (tE G T b W ea)) (hc : PE X c (tE G T b W ec)) : PI X (.Tuple es k tp) (.Call (.Name "zip" p) [a, c] [] pos) (tI X.K G T b W (.zip ea ec)) := by
  refine (pi_zip hg hm (pa_cons ha (pa_cons hc pa_nil (star_cons hs2)) (star_cons hs)) (star_cons hs) (star_any (by simp [hs2]))).mono fun σ H Q ⟨S, B, m, μ, ρ, hB, R, VV, P⟩ => ⟨S, B, m, μ, ρ, hB, R, VV, ?_⟩
  refine bindI P fun d μ1 v H1 m1 _ e1 R1 r1 P1 => ⟨S, B, m1, μ1, ρ, hB, R1, VV.evo e1, ?_⟩
  refine bindI P1 fun d2 μ2 v2 H2 m2 _ e2 R2 r2 P2 => ?_
  have P2 : PostI X.K G S B W m2 H2 σ Q (match srcL μ2 d.1, srcL μ2 d2.1 with | some x, some y => .ok (.zip x y) μ2 | _, _ => .bad) := P2
  split at P2
  · rename_i x y h1 h2
    obtain ⟨a, vs, rfl, hr, l⟩ := src_at hK R2 (r1.evo e2) h1
    obtain ⟨c, ws, rfl, hr2, l2⟩ := src_at hK R2 r2 h2
    exact ⟨a, c, vs, ws, rfl, hr, hr2, P2 _ H2 m2 (Evo.refl m2 H2) R2 (.zip l l2)⟩
  · exact False.elim P2
theorem i_enum (hK : X.K = G.K) {es : List Expr} {k : Nat} {tp : Pos} {a : Expr} {ea : E} {p pos : Pos} (hg : Gl X "enumerate") (hm : X.mg "enumerate" = none) (hs : isStar a = false) (ha : PE X a (tE G T b W ea)) : PI X (.Tuple es k tp) (.Call (.Name "enumerate" p) [a] [] pos) (tI X.K G T b W (.enum ea)) := by
  refine (pi_enum hg hm (pa_cons ha pa_nil (star_cons hs)) (star_cons hs)).mono fun σ H Q ⟨S, B, m, μ, ρ, hB, R, VV, P⟩ => ⟨S, B, m, μ, ρ, hB, R, VV, ?_⟩
  refine bindI P fun d μ1 v H1 m1 _ e1 R1 r1 P1 => ?_
  have P1 : PostI X.K G S B W m1 H1 σ Q (okR ((srcL μ1 d.1).map .enum) μ1) := P1
  cases h : srcL μ1 d.1 with
  | none => rw [h] at P1; exact False.elim P1
  | some s =>
    rw [h] at P1
    obtain ⟨a, vs, rfl, hr, l⟩ := src_at hK R1 r1 h
    exact ⟨a, vs, rfl, hr, P1 _ H1 m1 (Evo.refl m1 H1) R1 (.enum l)⟩
end
end VM

set_option Elab.async false
set_option maxRecDepth 100000
set_option autoImplicit false
set_option linter.unusedVariables false
/-! comprehensions -/
namespace VM
open PySem PySem.Spec PyProof.Rows L2
abbrev W0 : L2.WX := fun _ _ _ _ => False
abbrev shd (S : AP_) (p : Addr) : AP_ := fun a => S a ∨ a = p
section
variable {X : Cx} {G : Gb} {Tx : Tr} {T : Tb} {b : Nat} {W : L2.WX}
variable {S : AP_} {B : Nat → Prop} {m m' : List Addr} {μ : Sto} {H H' : Hp}
theorem hk_new {p : Addr} {o : HO} (hp : H p = none) : ∀ (a : Addr) (u : HO), H a = some u → ¬ av S m a → upd H p o a = some u ∧ ¬ av (shd S p) m a := fun a u e n =>
  ⟨same_new hp _ _ e, fun z => z.elim (fun z => z.elim (fun z => n (.inl z)) (ne_of_none e hp)) fun z => n (.inr z)⟩
theorem hk_shd {p : Addr} {o : HO} : ∀ (a : Addr) (u : HO), H a = some u → ¬ av (shd S p) m a → upd H p o a = some u ∧ ¬ av (shd S p) m a := fun a u e n =>
  ⟨by rw [upd_ne fun z => n (.inl (.inr z))]; exact e, n⟩
theorem hk_un {p : Addr} : ∀ (a : Addr) (u : HO), H a = some u → ¬ av (shd S p) m a → H a = some u ∧ ¬ av S m a := fun a u e n => ⟨e, fun z => z.elim (fun z => n (.inl (.inl z))) fun z => n (.inr z)⟩
theorem hk_x {p : Addr} : ∀ (a : Addr) (u : HO), H a = some u → ¬ av (shd S p) m a → H a = some u ∧ ¬ avx S m p a := fun a u e n =>
  ⟨e, fun z => z.elim (fun z => z.elim (fun z => n (.inl (.inl z))) fun z => n (.inr z)) fun z => n (.inl (.inr z))⟩
theorem Rep.shield (R : Rep G S B m μ H) {p : Addr} {o : HO} (hp : H p = none) : Rep G (shd S p) B m μ (upd H p o) :=
  ⟨R.len, R.nd, fun l a c h1 h2 => (R.at_ l a c h1 h2).imp (fun _ _ e => e) (hk_new hp) fun _ e => same_new hp _ _ e, R.lev, fun a z => by
    rcases z with z | rfl
    · obtain ⟨⟨u, e⟩, n⟩ := R.trk a z
      exact ⟨⟨u, same_new hp _ _ e⟩, n⟩
    · exact ⟨⟨o, upd_same⟩, fun z => av_new R hp (.inr z)⟩⟩
theorem Rep.atS {p : Addr} {o : HO} (R : Rep G (shd S p) B m μ H) : Rep G (shd S p) B m μ (upd H p o) := by
  have hp := (R.trk p (.inr rfl)).2
  refine ⟨R.len, R.nd, fun l a c h1 h2 => (R.at_ l a c h1 h2).imp (fun _ _ e => e) hk_shd fun u e => ?_, R.lev, fun a z => ?_⟩
  · rw [upd_ne fun z => hp (by rw [← z]; exact List.mem_of_getElem? h1)]; exact e
  · obtain ⟨⟨u, e⟩, n⟩ := R.trk a z
    by_cases h : a = p
    · subst h; exact ⟨⟨o, upd_same⟩, n⟩
    · exact ⟨⟨u, by rw [upd_ne h]; exact e⟩, n⟩
theorem Rep.unshield {p : Addr} (R : Rep G (shd S p) B m μ H) : Rep G S B m μ H :=
  ⟨R.len, R.nd, fun l a c h1 h2 => (R.at_ l a c h1 h2).imp (fun _ _ e => e) hk_un fun _ e => e, R.lev, fun a z => R.trk a (.inl z)⟩
theorem Evo.updNew {H1 : Hp} {m1 : List Addr} {p : Addr} {o : HO} (e : Evo m1 H1 m H) (hp : H1 p = none) : Evo m1 H1 m (upd H p o) :=
  ⟨e.ext, fun a u h n => ⟨by rw [upd_ne (ne_of_none h hp)]; exact (e.keep a u h n).1, (e.keep a u h n).2⟩, fun a u h => by
    obtain ⟨u', h'⟩ := e.dom a u h
    exact ⟨u', by rw [upd_ne (ne_of_none h hp)]; exact h'⟩⟩
theorem wipe_sub {us : List Nat} : ∀ {vs : List Nat} {σ : L2.St}, (∀ v ∈ vs, v ∈ us) → wipe (wipe σ vs) us = wipe σ us
  | [], _, _ => rfl
  | v :: vs, σ, h => by
    show wipe ((wipe σ vs).set v none) us = _
    rw [wipe_set_in (h v List.mem_cons_self)]
    exact wipe_sub fun w hw => h w (List.mem_cons_of_mem _ hw)
theorem bindIE {K : PySem.W.Frag} {σ : L2.St} {r : R Src} {f : Src → Sto → R (D × Nat)} {Q : VK} {Q1 : L2.It → Hp → Prop} (h : PostE G S B W m H σ Q (r.bind f))
    (k : ∀ (s : Src) (μ1 : Sto) (J : L2.It) (H1 : Hp) (m1 : List Addr), r = .ok s μ1 → Evo m H m1 H1 → Rep G S B m1 μ1 H1 → SR K G S m1 H1 s J → PostE G S B W m1 H1 σ Q (f s μ1) → Q1 J H1) : PostI K G S B W m H σ Q1 r := by
  cases r with
  | ok s μ1 => exact fun J H1 m1 e R sr => k s μ1 J H1 m1 rfl e R sr (PostE.shift e h)
  | err x μ1 => exact h
  | bad => exact h
theorem noErr_ok {α : Type} {r : R α} {a : α} {μ : Sto} (h : noErr r = .ok a μ) : r = .ok a μ := by
  cases r with
  | ok x μ1 => exact h
  | err x μ1 => cases h
  | bad => cases h
theorem noErr_cases {α : Type} (r : R α) : noErr r = .bad ∨ ∃ a μ, r = .ok a μ := by
  cases r with
  | ok x μ1 => exact .inr ⟨x, μ1, rfl⟩
  | err x μ1 => exact .inl rfl
  | bad => exact .inl rfl
/-- the element of a comprehension -/
def lcF (T : Tb) (b : Nat) (ee : E) (tg : Tg) (ce : E) (own : List Nat) (ρ : Ev) (x : D) (μ : Sto) : R (Option D) := match bindL 3 tg x (wipeD ρ own) with
  | none => .bad
  | some ρ1 => (evE T b ce ρ1 μ).bind fun k μ1 => match truD μ1 k.1 with
    | some true => (evE T b ee ρ1 μ1).bind fun y μ2 => .ok (some y.1) μ2
    | some false => .ok none μ1
    | none => .bad
/-- .. k levels of new lists deep -/
def lcFk (T : Tb) (b k : Nat) (ee : E) (tg : Tg) (ce : E) (own : List Nat) (ρ : Ev) (x : D) (μ : Sto) : R (Option D) := match bindL 3 tg x (wipeD ρ own) with
  | none => .bad
  | some ρ1 => (evE T b ce ρ1 μ).bind fun t μ1 => match truD μ1 t.1 with
    | some true => (evE T b ee ρ1 μ1).bind fun y μ2 => if k ≤ y.2 then .ok (some y.1) μ2 else .bad
    | some false => .ok none μ1
    | none => .bad
theorem lcF0 {ee : E} {tg : Tg} {ce : E} {own : List Nat} {ρ : Ev} : lcF T b ee tg ce own ρ = lcFk T b 0 ee tg ce own ρ := by
  funext x μ
  unfold lcF lcFk
  simp only [Nat.zero_le, if_true]
theorem evE_lc {ee ce : E} {tg : Tg} {it : It} {own : List Nat} {ρ : Ev} {μ : Sto} : evE T b (.lc ee tg it ce own) ρ μ = (evIt T b it ρ μ).bind fun src μ1 => (noErr (lcLoop (lcF T b ee tg ce own ρ) src (src.size μ1 + 1) 0 [] μ1)).bind fun xs μ2 => .ok (.lst xs, 1) μ2 := rfl
theorem evE_lcd {k : Nat} {ee ce : E} {tg : Tg} {it : It} {own : List Nat} {ρ : Ev} {μ : Sto} : evE T b (.lcd k ee tg it ce own) ρ μ = (evIt T b it ρ μ).bind fun src μ1 => (noErr (lcLoop (lcFk T b k ee tg ce own ρ) src (src.size μ1 + 1) 0 [] μ1)).bind fun xs μ2 => .ok (.lst xs, k + 1) μ2 := rfl
theorem evE_lc0 {ee ce : E} {tg : Tg} {it : It} {own : List Nat} {ρ : Ev} {μ : Sto} : evE T b (.lc ee tg it ce own) ρ μ = evE T b (.lcd 0 ee tg it ce own) ρ μ := by
  rw [evE_lc, evE_lcd, lcF0]
/-- S, and the list that is made, and what it owns -/
def shL (S : AP_) (p : Addr) (L : List Addr) : AP_ := fun a => S a ∨ a = p ∨ a ∈ L
theorem hkL_shd {p : Addr} {L : List Addr} {o : HO} : ∀ (a : Addr) (u : HO), H a = some u → ¬ av (shL S p L) m a → upd H p o a = some u ∧ ¬ av (shL S p L) m a := fun a u e n =>
  ⟨by rw [upd_ne fun z => n (.inl (.inr (.inl z)))]; exact e, n⟩
theorem hkL_un {p : Addr} {L : List Addr} : ∀ (a : Addr), ¬ av (shL S p L) m a → ¬ av S m a := fun a n z => z.elim (fun z => n (.inl (.inl z))) fun z => n (.inr z)
theorem hkL_x {p : Addr} {L : List Addr} : ∀ (a : Addr), ¬ av (shL S p L) m a → ¬ avL S m (p :: L) a := fun a n z => n (z.elim (fun z => z.elim (fun z => .inl (.inl z)) .inr) fun z => .inl (.inr (List.mem_cons.mp z)))
theorem Rep.toL {p : Addr} (R : Rep G (shd S p) B m μ H) : Rep G (shL S p []) B m μ H :=
  ⟨R.len, R.nd, fun l a c h1 h2 => (R.at_ l a c h1 h2).imp (fun _ _ e => e) (fun a o e n => ⟨e, fun z => n (z.elim (fun z => z.elim (fun z => .inl (.inl z)) fun z => z.elim (fun z => .inl (.inr z)) fun z => by cases z) .inr)⟩) fun _ e => e, R.lev, fun a z => z.elim (fun z => R.trk a (.inl z)) fun z => z.elim (fun z => R.trk a (.inr z)) fun z => by cases z⟩
theorem av_shL0 {p : Addr} : ∀ (a : Addr), ¬ av (shd S p) m a → ¬ av (shL S p []) m a := fun a n z => n (z.elim (fun z => z.elim (fun z => .inl (.inl z)) fun z => z.elim (fun z => .inl (.inr z)) fun z => by cases z) .inr)
theorem Rep.atL {p : Addr} {L : List Addr} {o : HO} (R : Rep G (shL S p L) B m μ H) : Rep G (shL S p L) B m μ (upd H p o) := by
  have hp := (R.trk p (.inr (.inl rfl))).2
  refine ⟨R.len, R.nd, fun l a c h1 h2 => (R.at_ l a c h1 h2).imp (fun _ _ e => e) hkL_shd fun u e => ?_, R.lev, fun a z => ?_⟩
  · rw [upd_ne fun z => hp (by rw [← z]; exact List.mem_of_getElem? h1)]; exact e
  · obtain ⟨⟨u, e⟩, n⟩ := R.trk a z
    by_cases h : a = p
    · subst h; exact ⟨⟨o, upd_same⟩, n⟩
    · exact ⟨⟨u, by rw [upd_ne h]; exact e⟩, n⟩
theorem Rep.unL {p : Addr} {L : List Addr} (R : Rep G (shL S p L) B m μ H) : Rep G S B m μ H :=
  ⟨R.len, R.nd, fun l a c h1 h2 => (R.at_ l a c h1 h2).imp (fun _ _ e => e) (fun a o e n => ⟨e, hkL_un a n⟩) fun _ e => e, R.lev, fun a z => R.trk a (.inl z)⟩
theorem lc_imp {K : PySem.W.Frag} (hK : K = G.K) {kf : Nat} {ee ce : E} {tg' : Tg} {it' : It} {vs : List Nat} (hin : tgIn vs tg' = true) {σ : L2.St} {H : Hp} {Q : VK} (hh : tE G T b W (.lcd kf ee tg' it' ce vs) σ H Q) :
    tLc (tI K G T b W it') (tgG K tg') (tT G T b W0 ce) (tE G T b W0 ee) vs σ H Q := by
  subst hK
  obtain ⟨S, B, m, μ, ρ, hB, R, VV, P⟩ := hh
  refine ⟨S, B, m, μ, ρ, hB, R, VV, ?_⟩
  rw [evE_lcd] at P
  refine bindIE P fun src μ1 J H1 m1 _ e1 R1 sr P1 => ?_
  rcases noErr_cases (lcLoop (lcFk T b kf ee tg' ce (vs) ρ) src (src.size μ1 + 1) 0 [] μ1) with hbad | ⟨xs, μ2, hloop⟩
  · have P1 : PostE G S B W m1 H1 σ Q ((noErr (lcLoop (lcFk T b kf ee tg' ce (vs) ρ) src (src.size μ1 + 1) 0 [] μ1)).bind fun xs μ2 => .ok (.lst xs, kf + 1) μ2) := P1
    rw [hbad] at P1; exact False.elim P1
  have P1 : PostE G S B W m1 H1 σ Q ((noErr (lcLoop (lcFk T b kf ee tg' ce (vs) ρ) src (src.size μ1 + 1) 0 [] μ1)).bind fun xs μ2 => .ok (.lst xs, kf + 1) μ2) := P1
  rw [hloop] at P1
  have P1 : PostE G S B W m1 H1 σ Q (.ok (.lst xs, kf + 1) μ2) := P1
  intro D hD
  have nSD : ¬ S D := fun z => by
    obtain ⟨⟨u, e⟩, _⟩ := R1.trk D z
    rw [hD] at e; cases e
  refine ⟨fun i k H' => ∃ m' μ' acc accv L, lcLoop (lcFk T b kf ee tg' ce (vs) ρ) src k i acc μ' = .ok xs μ2 ∧ Evo m1 H1 m' H' ∧ Rep G (shL S D L) B m' μ' H' ∧ EnvR G (av (shL S D L) m') m' H' σ ρ ∧ SR G.K G (shL S D L) m' H' src J ∧ H' D = some (.lst accv) ∧ (D :: L).Nodup ∧ (∀ a ∈ L, H1 a = none) ∧ OwnVs G (av (shL S D L) m') m' H' kf L accv acc,
    ⟨src.size μ1 + 1, m1, μ1, [], [], [], hloop, Evo.grow (same_new hD), (R1.shield hD).toL, (VV.evo e1).imp fun _ _ r => r.imp (fun _ _ e => e) fun a o e n => ⟨(hk_new hD a o e n).1, av_shL0 a (hk_new (o := .lst []) hD a o e n).2⟩, sr.imp (fun _ _ e => e) fun a o e n => ⟨(hk_new hD a o e n).1, av_shL0 a (hk_new (o := .lst []) hD a o e n).2⟩, upd_same, by simp, (fun _ h => by cases h), .nil⟩, ?_⟩
  rintro i k H' ⟨m', μ', acc, accv, L, hl, E1, R', V', sr', hD', nd', hL', t'⟩
  cases k with
  | zero => cases hl
  | succ k =>
    have hl : (match src.at μ' i with
      | .bad => .bad
      | .done => .ok acc μ'
      | .item x => (lcFk T b kf ee tg' ce (vs) ρ x μ').bind fun y μ1 => match y with
        | none => lcLoop (lcFk T b kf ee tg' ce (vs) ρ) src k (i + 1) acc μ1
        | some d => if acc.length < sizeLine then lcLoop (lcFk T b kf ee tg' ce (vs) ρ) src k (i + 1) (acc ++ [d]) μ1 else .bad) = VM.R.ok xs μ2 := hl
    rcases sr'.turn R' i with h | ⟨h, hst⟩ | ⟨d, h, hgo, hy⟩
    · rw [h] at hl; cases hl
    · rw [h] at hl
      cases hl
      refine .inl ⟨hst, ?_⟩
      have nD : ¬ av S m' D := fun z => z.elim nSD (R'.trk D (.inr (.inl rfl))).2
      have nL : ∀ a ∈ L, ¬ av S m' a := fun a h z => z.elim (fun z => by
        obtain ⟨⟨u, e⟩, _⟩ := R1.trk a z
        rw [hL' a h] at e; cases e) (R'.trk a (.inr (.inr h))).2
      refine P1 (.ref D) H' m' E1 R'.unL (.lst (.inl hD') nD (t'.rv (fun a n => hkL_un a n) nL)) ⟨D :: L, nd', fun a h => ?_, .lst hD' (t'.imp (fun _ _ e => e) (fun a o e n => ⟨e, hkL_x a n⟩) fun _ _ _ e => e), fun l a c h1 h2 => ?_⟩
      · rcases List.mem_cons.mp h with rfl | h
        · exact ⟨hD, nD⟩
        · exact ⟨hL' a h, nL a h⟩
      · exact (R'.at_ l a c h1 h2).imp (fun _ _ e => e) (fun a o e n => ⟨e, hkL_x a n⟩) fun _ e => e
    · rw [h] at hl
      refine .inr ⟨hgo, _, fun H'' hw => ⟨k, Nat.lt_succ_self k, hw⟩, fun x H'' y => ?_⟩
      obtain ⟨sm, rx⟩ := hy x H'' y
      obtain ⟨yo, μ3, hF, hl⟩ := bind_ok hl
      unfold lcFk at hF
      cases hb : bindL 3 tg' d (wipeD ρ (vs)) with
      | none => rw [hb] at hF; cases hF
      | some ρ1 =>
        rw [hb] at hF
        have EG := Evo.grow (m := m') sm
        refine bind_at 3 tg' d x _ _ ρ1 hb hin rx ((V'.evo EG).wipe _) fun σ1 E2 w1 => ⟨w1.trans (wipe_sub fun _ h => h), ?_⟩
        obtain ⟨kk, μa, hca, hF⟩ := bind_ok hF
        refine ⟨shL S D L, B, m', μ', ρ1, hB, R'.grow sm, E2, ?_⟩
        have step : ∀ c, truD μa kk.1 = some c → PostT G (shL S D L) B W0 m' H'' σ1 (fun bb H3 => if bb = true then tE G T b W0 ee σ1 H3 fun y H4 => ∃ acc, H4 D = some (.lst acc) ∧ acc.length < sizeLine ∧ ∃ m' μ' acc' accv L, lcLoop (lcFk T b kf ee tg' ce (vs) ρ) src k (i + 1) acc' μ' = .ok xs μ2 ∧ Evo m1 H1 m' (upd H4 D (.lst (acc ++ [y]))) ∧ Rep G (shL S D L) B m' μ' (upd H4 D (.lst (acc ++ [y]))) ∧ EnvR G (av (shL S D L) m') m' (upd H4 D (.lst (acc ++ [y]))) σ ρ ∧ SR G.K G (shL S D L) m' (upd H4 D (.lst (acc ++ [y]))) src J ∧ (upd H4 D (.lst (acc ++ [y]))) D = some (.lst accv) ∧ (D :: L).Nodup ∧ (∀ a ∈ L, H1 a = none) ∧ OwnVs G (av (shL S D L) m') m' (upd H4 D (.lst (acc ++ [y]))) kf L accv acc'
            else ∃ m' μ' acc' accv L, lcLoop (lcFk T b kf ee tg' ce (vs) ρ) src k (i + 1) acc' μ' = .ok xs μ2 ∧ Evo m1 H1 m' H3 ∧ Rep G (shL S D L) B m' μ' H3 ∧ EnvR G (av (shL S D L) m') m' H3 σ ρ ∧ SR G.K G (shL S D L) m' H3 src J ∧ H3 D = some (.lst accv) ∧ (D :: L).Nodup ∧ (∀ a ∈ L, H1 a = none) ∧ OwnVs G (av (shL S D L) m') m' H3 kf L accv acc') (.ok c μa) := by
          intro c hc2 H3 m3 e3 R3
          rw [hc2] at hF
          have nD' : D ∉ m' := (R'.trk D (.inr (.inl rfl))).2
          have hD3 : H3 D = some (.lst accv) := (e3.keep D _ (sm _ _ hD') nD').1
          have nD3 : D ∉ m3 := (e3.keep D _ (sm _ _ hD') nD').2
          have E3 := EG.trans e3
          have keepL : ∀ a o, a ∈ L → H' a = some o → H3 a = some o := fun a o h e => (e3.keep a o (sm _ _ e) (R'.trk a (.inr (.inr h))).2).1
          have t3 : OwnVs G (av (shL S D L) m3) m3 H3 kf L accv acc := t'.imp (fun _ _ => E3.at) (evo_hk E3) keepL
          cases c with
          | false =>
            cases hF
            exact iteF ⟨m3, μ3, acc, accv, L, hl, E1.trans E3, R3, V'.evo E3, sr'.imp (fun _ _ => E3.at) (evo_hk E3), hD3, nd', hL', t3⟩
          | true =>
            obtain ⟨y, μb, hee, hF⟩ := bind_ok hF
            have hF : (if kf ≤ y.2 then VM.R.ok (some y.1) μb else .bad) = .ok yo μ3 := hF
            have hkf : kf ≤ y.2 := by
              by_cases h : kf ≤ y.2
              · exact h
              · rw [if_neg h] at hF; cases hF
            rw [if_pos hkf] at hF
            cases hF
            obtain ⟨hlen, hl⟩ : acc.length < sizeLine ∧ lcLoop (lcFk T b kf ee tg' ce (vs) ρ) src k (i + 1) (acc ++ [y.1]) μ3 = .ok xs μ2 := by
              by_cases hz : acc.length < sizeLine
              · have hl : (if acc.length < sizeLine then lcLoop (lcFk T b kf ee tg' ce (vs) ρ) src k (i + 1) (acc ++ [y.1]) μ3 else .bad) = VM.R.ok xs μ2 := hl
                rw [if_pos hz] at hl; exact ⟨hz, hl⟩
              · have hl : (if acc.length < sizeLine then lcLoop (lcFk T b kf ee tg' ce (vs) ρ) src k (i + 1) (acc ++ [y.1]) μ3 else .bad) = VM.R.ok xs μ2 := hl
                rw [if_neg hz] at hl; cases hl
            refine iteT ⟨shL S D L, B, m3, μa, ρ1, hB, R3, (E2.evo e3), ?_⟩
            rw [hee]
            intro v H4 m4 e4 R4 r4 nw
            have E4 := E3.trans e4
            have hD4 : H4 D = some (.lst accv) := (e4.keep D _ hD3 nD3).1
            obtain ⟨L1, nd1, own1, cr1⟩ := nw.le hkf
            have has1 := own1.has
            -- what is owned now
            have av2 : ∀ a, H3 a ≠ none → ¬ av (shL S D L) m4 a → ¬ av (shL S D (L ++ L1)) m4 a := fun a h n z => n (z.elim (fun z => z.elim (fun z => .inl (.inl z)) fun z => z.elim (fun z => .inl (.inr (.inl z))) fun z => (List.mem_append.mp z).elim (fun z => .inl (.inr (.inr z))) fun z => absurd (nd1.2 a z).1 h) .inr)
            have hk4 : ∀ (a : Addr) (u : HO), H3 a = some u → ¬ av (shL S D L) m3 a → upd H4 D (.lst (accv ++ [v])) a = some u ∧ ¬ av (shL S D (L ++ L1)) m4 a := fun a u e n => by
              obtain ⟨k1, k2⟩ := evo_hk e4 a u e n
              exact ⟨by rw [upd_ne fun z => n (.inl (.inr (.inl z)))]; exact k1, av2 a (by rw [e]; simp) k2⟩
            have sp : ∀ a, ¬ avL (shL S D L) m4 L1 a → ¬ av (shL S D (L ++ L1)) m4 a := fun a n z => n (z.elim (fun z => z.elim (fun z => .inl (.inl (.inl z))) fun z => z.elim (fun z => .inl (.inl (.inr (.inl z)))) fun z => (List.mem_append.mp z).elim (fun z => .inl (.inl (.inr (.inr z)))) fun z => .inr z) fun z => .inl (.inr z))
            have hk5 : ∀ (a : Addr) (u : HO), H4 a = some u → ¬ avL (shL S D L) m4 L1 a → upd H4 D (.lst (accv ++ [v])) a = some u ∧ ¬ av (shL S D (L ++ L1)) m4 a := fun a u e n =>
              ⟨by rw [upd_ne fun z => n (.inl (.inl (.inr (.inl z))))]; exact e, sp a n⟩
            have neD1 : ∀ a ∈ L1, a ≠ D := fun a h z => (nd1.2 a h).2 (.inl (.inr (.inl z)))
            have R5 : Rep G (shL S D (L ++ L1)) B m4 μ3 H4 := ⟨R4.len, R4.nd, fun l a c h1 h2 => (cr1 l a c h1 h2).imp (fun _ _ e => e) (fun a o e n => ⟨e, sp a n⟩) fun _ e => e, R4.lev, fun a z => z.elim (fun z => R4.trk a (.inl z)) fun z => z.elim (fun z => R4.trk a (.inr (.inl z))) fun z => (List.mem_append.mp z).elim (fun z => R4.trk a (.inr (.inr z))) fun z => ⟨has1 a z, fun w => (nd1.2 a z).2 (.inr w)⟩⟩
            refine ⟨accv, hD4, by rw [(t'.rv (A' := fun _ => False) (fun _ _ z => z) fun _ _ z => z).length]; exact hlen, m4, μ3, acc ++ [y.1], accv ++ [v], L ++ L1, hl, (E1.trans E4).updNew hD, R5.atL, (V'.evo E3).imp fun _ _ r => r.imp (fun _ _ => e4.at) hk4, (sr'.imp (fun _ _ => E3.at) (evo_hk E3)).imp (fun _ _ => e4.at) hk4, upd_same, ?_, fun a h => ?_, ?_⟩
            · have n2 := List.nodup_cons.mp nd'
              refine List.nodup_cons.mpr ⟨fun z => (List.mem_append.mp z).elim n2.1 fun z => neD1 D z rfl, List.nodup_append.mpr ⟨n2.2, nd1.1, fun a ha b hb e => ?_⟩⟩
              subst e
              exact (nd1.2 a hb).2 (.inl (.inr (.inr ha)))
            · rcases List.mem_append.mp h with h | h
              · exact hL' a h
              · exact (E1.trans E3).free (nd1.2 a h).1
            · refine OwnVs.snoc (own1.imp (fun _ _ e => e) hk5 fun a o h e => by rw [upd_ne (neD1 a h)]; exact e) (t3.imp (fun _ _ => e4.at) hk4 fun a o h e => ?_)
              rw [upd_ne fun z => (List.nodup_cons.mp nd').1 (by rw [← z]; exact h)]
              exact (e4.keep a o e (R3.trk a (.inr (.inr h))).2).1
        rw [show tst (evE T b ce ρ1 μ') = okR (truD μa kk.1) μa by rw [hca]; rfl]
        cases hq : truD μa kk.1 with
        | none => rw [hq] at hF; cases hF
        | some c => exact step c hq
theorem r_lcd {kf : Nat} {elt tg iter : Expr} {ifs : List Expr} {scope : Scope} {own : List (Str × Nat)} {pos : Pos} {ee ce : E} {tg' : Tg} {it' : It} (hK : X.K = G.K) (hc : X.calm = true) (hN : X.N.Nodup) (hi : PI X tg iter (tI X.K G T b W it')) (ok : BlkOk X.N X.env.scope scope own)
    (hin : tgIn (own.map (·.2)) tg' = true)
    (hg : ∀ (s : Shared) (H : Hp) (C : Addr) (cl : List (Str × Addr)) (fp : List Addr), PG (X.blk s H scope (compEnvC scope cl C X.env) fp) tg (tgG X.K tg'))
    (ht : ∀ (s : Shared) (H : Hp) (C : Addr) (cl : List (Str × Addr)) (fp : List Addr), PTs (X.blk s H scope (compEnvC scope cl C X.env) fp) ifs (tT G T b W0 ce))
    (he : ∀ (s : Shared) (H : Hp) (C : Addr) (cl : List (Str × Addr)) (fp : List Addr), PE (X.blk s H scope (compEnvC scope cl C X.env) fp) elt (tE G T b W0 ee)) (hs : ∀ x, foldedSetIterable iter X.env x = pure x) :
    PE X (.ListComp elt [⟨tg, iter, ifs, 0⟩] scope pos) (tE G T b W (.lcd kf ee tg' it' ce (own.map (·.2)))) := by
  exact (pe_lc hc hN hi ok hg ht he hs).mono fun σ H Q h => lc_imp hK hin h
theorem r_lc {elt tg iter : Expr} {ifs : List Expr} {scope : Scope} {own : List (Str × Nat)} {pos : Pos} {ee ce : E} {tg' : Tg} {it' : It} (hK : X.K = G.K) (hc : X.calm = true) (hN : X.N.Nodup) (hi : PI X tg iter (tI X.K G T b W it')) (ok : BlkOk X.N X.env.scope scope own)
    (hin : tgIn (own.map (·.2)) tg' = true)
    (hg : ∀ (s : Shared) (H : Hp) (C : Addr) (cl : List (Str × Addr)) (fp : List Addr), PG (X.blk s H scope (compEnvC scope cl C X.env) fp) tg (tgG X.K tg'))
    (ht : ∀ (s : Shared) (H : Hp) (C : Addr) (cl : List (Str × Addr)) (fp : List Addr), PTs (X.blk s H scope (compEnvC scope cl C X.env) fp) ifs (tT G T b W0 ce))
    (he : ∀ (s : Shared) (H : Hp) (C : Addr) (cl : List (Str × Addr)) (fp : List Addr), PE (X.blk s H scope (compEnvC scope cl C X.env) fp) elt (tE G T b W0 ee)) (hs : ∀ x, foldedSetIterable iter X.env x = pure x) :
    PE X (.ListComp elt [⟨tg, iter, ifs, 0⟩] scope pos) (tE G T b W (.lc ee tg' it' ce (own.map (·.2)))) := by
  exact (r_lcd (kf := 0) hK hc hN hi ok hin hg ht he hs).mono fun σ H Q ⟨S, B, m, μ, ρ, hB, R, VV, P⟩ => ⟨S, B, m, μ, ρ, hB, R, VV, by rw [evE_lc0] at P; exact P⟩
end
end VM

set_option Elab.async false
set_option maxRecDepth 100000
set_option autoImplicit false
set_option linter.unusedVariables false
/-! every expression -/
namespace VM
open PySem PySem.Spec PyProof.Rows L2
section
variable {X : Cx} {G : Gb} {Tx : Tr} {T : Tb} {b : Nat} {W : L2.WX}
theorem asg_cons {e : Expr} {es : List Expr} {env : Env} (h : isStar e = false) : (assignEach (e :: es) env) = (false, assign e env) :: assignEach es env := by
  cases e <;> first | rfl | cases h
theorem asg_len {env : Env} : ∀ {es : List Expr}, es.any isStar = false → (assignEach es env).length = es.length ∧ (assignEach es env).findIdx? (·.1) = none
  | [], _ => ⟨rfl, rfl⟩
  | e :: es, h => by
    rw [List.any_cons, Bool.or_eq_false_iff] at h
    rw [asg_cons h.1]
    obtain ⟨h1, h2⟩ := asg_len (env := env) h.2
    refine ⟨by simp [h1], ?_⟩
    rw [List.findIdx?_cons]
    simp [h2]
theorem tgs_len (f : Expr → Tg) : ∀ es : List Expr, tgsLen (tgsOf (es.map f)) = es.length
  | [] => rfl
  | e :: es => by simp [tgsOf, tgsLen, tgs_len f es]
theorem pgs_all {K : PySem.W.Frag} {f : Expr → Tg} : ∀ {es : List Expr}, es.any isStar = false → (∀ e ∈ es, PG X e (tgG K (f e))) → PGs X es (tgsG K (tgsOf (es.map f)))
  | [], _, _ => pgs_nil
  | e :: es, hs, h => by
    rw [List.any_cons, Bool.or_eq_false_iff] at hs
    exact pgs_cons (h e List.mem_cons_self) (pgs_all hs.2 fun x hx => h x (List.mem_cons_of_mem _ hx)) (by rw [asg_cons hs.1]; rfl)
theorem pg_bad {e : Expr} : PG X e (tgG X.K .bad) := ⟨fun _ _ _ _ _ _ _ _ _ h => False.elim h⟩
theorem tgsIn_all {own : List Nat} {f : Expr → Tg} : ∀ {es : List Expr}, tgsIn own (tgsOf (es.map f)) = true → ∀ e ∈ es, tgIn own (f e) = true
  | [], _, _, h => by cases h
  | x :: es, h, e, he => by
    have h : (tgIn own (f x) && tgsIn own (tgsOf (es.map f))) = true := h
    rw [Bool.and_eq_true] at h
    rcases List.mem_cons.mp he with rfl | he
    · exact h.1
    · exact tgsIn_all h.2 e he
theorem gN (calm : X.calm = true) (nd : X.N.Nodup) (eqN : X.N = Tx.N) (own : Option (List Nat)) (hf : ∀ x i, slotOf Tx.N x = some i → (∀ l, own = some l → i ∈ l) → X.fn x = true ∨ X.env.scope.names.lookup x = some .local) :
    ∀ (n : Nat) (e : Expr), (∀ l, own = some l → tgIn l (trN Tx n X.env.scope.names e) = true) → PG X e (tgG X.K (trN Tx n X.env.scope.names e))
  | 0, e, _ => by unfold trN; exact pg_bad
  | n + 1, e, ho => by
    cases e with
    | Name x p =>
      unfold trN at ho ⊢
      dsimp only at ho ⊢
      split
      · rename_i hk
        rw [if_pos hk] at ho
        cases hs : slotOf Tx.N x with
        | none => exact pg_bad
        | some i =>
          rw [hs] at ho
          refine pg_name nd (by rw [eqN]; exact slot_at hs) ?_ (hf x i hs fun l hl => by simpa [tgIn] using ho l hl)
          rw [Bool.or_eq_true] at hk
          rcases hk with hk | hk
          · exact .inl (by simpa using hk)
          · exact .inr (by simpa using hk)
      · exact pg_bad
    | Tuple es k p =>
      unfold trN at ho ⊢
      dsimp only at ho ⊢
      split
      · exact pg_bad
      · rename_i hk
        have hk : es.any isStar = false := by simpa using hk
        rw [if_neg (by simp [hk])] at ho
        have ih : ∀ e ∈ es, PG X e (tgG X.K (trN Tx n X.env.scope.names e)) := fun e he => gN calm nd eqN own hf n e fun l hl => tgsIn_all (ho l hl) e he
        obtain ⟨h1, h2⟩ := asg_len (env := X.env) hk
        show PG X _ (gTup X.K (tgsLen (tgsOf (es.map _))) (tgsG X.K (tgsOf (es.map _))))
        refine pg_tup calm (pgs_all hk ih) ?_ h2
        rw [h1, tgs_len]
    | _ => unfold trN; exact pg_bad

theorem names_rel {scope : Scope} {cl : List (Str × Addr)} {C : Addr} (hk : X.env.scope.kind = .function) : (compEnvC scope cl C X.env).scope.names = relN scope.names X.env.scope.names := by
  show scope.names.map _ = scope.names.map _
  refine List.map_congr_left fun y _ => ?_
  obtain ⟨n, k⟩ := y
  show (if (k == .free && X.env.scope.kind == .function && X.env.kindOf n == some .cell) = true then (n, NameKind.cell) else (n, k)) = if (k == .free && X.env.scope.names.lookup n == some .cell) = true then (n, .cell) else (n, k)
  rw [hk]
  have e : ((ScopeKind.function == ScopeKind.function) : Bool) = true := by decide
  rw [e, Bool.and_true]
  rfl
theorem Good.blk (Gd : Good X G Tx T) {scope : Scope} (hk : scope.kind = .function) (s : Shared) (H : Hp) (C : Addr) (cl : List (Str × Addr)) (fp : List Addr) : Good (X.blk s H scope (compEnvC scope cl C X.env) fp) G Tx T :=
  ⟨Gd.calm, Gd.eqK, Gd.nd, Gd.eqN, Gd.hu, Gd.div, Gd.rm, Gd.rz, Gd.tr, hk, Gd.bi, Gd.gd, Gd.gl, Gd.calld, Gd.call⟩
theorem own_at {N : List Str} {names : Sc} {x : Str} {i : Nat} (hu : ∀ y ∈ names, names.lookup y.1 = some y.2) (hx : slotOf N x = some i) (h : i ∈ (ownOf N names).map (·.2)) : names.lookup x = some .local ∨ names.lookup x = some .cell := by
  obtain ⟨p, hp, rfl⟩ := List.mem_map.mp h
  obtain ⟨y, hy, e⟩ := List.mem_filterMap.mp hp
  have key : ∀ k, (slotOf N y.1).map (fun i => (y.1, i)) = some p → y.2 = k → names.lookup x = some k := by
    intro k e hk
    obtain ⟨j, hj, rfl⟩ := map_some e
    have h1 := slot_at hj
    have h2 := slot_at hx
    rw [h1] at h2
    cases h2
    rw [hu y hy, hk]
  split at e
  · rename_i hk; exact .inl (key _ e hk)
  · rename_i hk; exact .inr (key _ e hk)
  · cases e
theorem rel_local {names sc : Sc} {x : Str} (h : names.lookup x = some .local) : (relN names sc).lookup x = some .local := by
  induction names with
  | nil => cases h
  | cons y r ih =>
    obtain ⟨n, k⟩ := y
    unfold relN
    rw [List.map_cons]
    rw [List.lookup_cons] at h
    by_cases hx : (x == n) = true
    · rw [hx] at h
      cases h
      have : ((NameKind.local == NameKind.free && sc.lookup n == some .cell) : Bool) = false := by
        have : (NameKind.local == NameKind.free) = false := by decide
        rw [this]; rfl
      rw [if_neg (by rw [this]; exact Bool.false_ne_true), List.lookup_cons, hx]
    · have hx : (x == n) = false := by simpa using hx
      rw [hx] at h
      have := ih h
      split <;> (rw [List.lookup_cons, hx]; exact this)

theorem takesN0 {X : Cx} : L2N.Takes X (fun _ _ _ _ => False) := fun _ _ x => by
  obtain ⟨_, _, _, _, _, _, _, _, _, _, _, _, _, _, _, _, z⟩ := x
  exact z.elim
structure OkN (G : Gb) (Tx : Tr) (T : Tb) (b n : Nat) : Prop where
  e : ∀ {X : Cx}, Good X G Tx T → ∀ {W : L2.WX}, L2N.Takes X W → ∀ e : Expr, PE X e (tE G T b W (trE Tx n X.env.scope.names e))
  t : ∀ {X : Cx}, Good X G Tx T → ∀ {W : L2.WX}, L2N.Takes X W → ∀ e : Expr, PT X e (tT G T b W (trE Tx n X.env.scope.names e))
  i : ∀ {X : Cx}, Good X G Tx T → ∀ {W : L2.WX}, L2N.Takes X W → ∀ tg e : Expr, PI X tg e (tI X.K G T b W (trI Tx n X.env.scope.names (isTup tg) e))
theorem i_bad {tg e : Expr} : PI X tg e (tI X.K G T b W (.ex .bad)) := ⟨fun _ _ _ _ _ _ ⟨_, _, _, _, _, _, _, _, P⟩ => False.elim P⟩
theorem blk_of {N : List Str} {sc : Sc} {S : Scope} {scope : Scope} {own : List (Str × Nat)} (hS : S.names = sc) (h : blkC N ⟨.function, sc, false, false, []⟩ scope own = true) : BlkOk N S scope own := by
  have k := blkOk_by h
  exact ⟨k.kind, k.uniq, k.ix, fun y hy e => by rw [hS]; exact k.free y hy e, k.own⟩
/-- and, or -/
theorem e_bool (hK : X.K = G.K) {op : BoolOp} {f : Expr → E} {pos : Pos} : ∀ {vs : List Expr}, (∀ v ∈ vs, PE X v (tE G T b W (f v))) → PE X (.BoolOp op vs pos) (tE G T b W (boolE op (vs.map f)))
  | [], _ => pe_bad
  | [a], h => pe_one (h a List.mem_cons_self)
  | a :: c :: r, h => by
    have ih := e_bool hK (op := op) (pos := pos) (vs := c :: r) fun v hv => h v (List.mem_cons_of_mem _ hv)
    cases op with
    | And => exact r_and hK (h a List.mem_cons_self) ih
    | Or => exact r_or hK (h a List.mem_cons_self) ih
theorem w_bool {op : BoolOp} {f : Expr → E} {pos : Pos} : ∀ {a : Expr} {vs : List Expr}, (∀ v ∈ a :: vs, PT X v (tT G T b W (f v))) → PW X (.BoolOp op (a :: vs) pos) (tT G T b W (boolE op ((a :: vs).map f)))
  | a, [], h => by
    cases op with
    | And => exact pw_and1 (h a List.mem_cons_self)
    | Or => exact pw_or1 (h a List.mem_cons_self)
  | a, c :: r, h => by
    have ih := w_bool (op := op) (pos := pos) (a := c) (vs := r) fun v hv => h v (List.mem_cons_of_mem _ hv)
    cases op with
    | And => exact w_and (h a List.mem_cons_self) ih
    | Or => exact w_or (h a List.mem_cons_self) ih
theorem beq_false_or {x : Str} (h : ¬ ((x == ("__debug__" : Str)) || (x == ("__classdict__" : Str))) = true) : (x == ("__debug__" : Str)) = false ∧ (x == ("__classdict__" : Str)) = false := by
  rw [Bool.or_eq_true] at h
  constructor
  · cases q : (x == ("__debug__" : Str)) with
    | true => exact absurd (.inl q) h
    | false => rfl
  · cases q : (x == ("__classdict__" : Str)) with
    | true => exact absurd (.inr q) h
    | false => rfl
theorem e_name (Gd : Good X G Tx T) {x : Str} {p : Pos} : PE X (.Name x p) (tE G T b W (if (x == ("__debug__" : Str)) || (x == ("__classdict__" : Str)) then .bad else if isLoc (X.env.scope.names.lookup x) then (match slotOf Tx.N x with | some i => .var i | none => .bad) else if globN X.env.scope.names x then .glob x else .bad)) := by
  split
  · exact pe_bad
  · rename_i hd
    obtain ⟨h1, h2⟩ := beq_false_or hd
    split
    · rename_i hl
      cases hs : slotOf Tx.N x with
      | none => exact pe_bad
      | some i =>
        refine r_var (by rw [Gd.eqN]; exact slot_at hs) ?_ h1 h2
        unfold isLoc at hl
        split at hl
        · rename_i h; exact .inl h
        · rename_i h; exact .inr (.inl h)
        · rename_i h; exact .inr (.inr h)
        · cases hl
    · split
      · rename_i hg
        exact r_glob Gd (show X.env.scope.names.lookup x = some .globalImplicit from beq_iff_eq.mp hg) h1
      · exact pe_bad
theorem plainIx {c : Expr} (h : isSlice c = false) : PlainIx c := by
  intro o i
  cases c <;> first | rfl | cases h
theorem fold_plain {e : Expr} {env : Env} (h : isSet e = false) : ∀ x, foldedSetIterable e env x = pure x := by
  intro x
  cases e <;> first | rfl | cases h
/-- what a comprehension's rule wants -/
structure LcP (X : Cx) (G : Gb) (T : Tb) (b : Nat) (elt tg it : Expr) (ifs : List Expr) (scope : Scope) (own : List (Str × Nat)) (ee ce : E) (tg' : Tg) : Prop where
  ok : BlkOk X.N X.env.scope scope own
  hin : tgIn (own.map (·.2)) tg' = true
  hg : ∀ (s : Shared) (H : Hp) (C : Addr) (cl : List (Str × Addr)) (fp : List Addr), PG (X.blk s H scope (compEnvC scope cl C X.env) fp) tg (tgG X.K tg')
  ht : ∀ (s : Shared) (H : Hp) (C : Addr) (cl : List (Str × Addr)) (fp : List Addr), PTs (X.blk s H scope (compEnvC scope cl C X.env) fp) ifs (tT G T b W0 ce)
  he : ∀ (s : Shared) (H : Hp) (C : Addr) (cl : List (Str × Addr)) (fp : List Addr), PE (X.blk s H scope (compEnvC scope cl C X.env) fp) elt (tE G T b W0 ee)
  hs : ∀ x, foldedSetIterable it X.env x = pure x
theorem lc_parts (Gd : Good X G Tx T) {n : Nat} (hO : OkN G Tx T b n) {elt tg it : Expr} {ifs : List Expr} {scope : Scope}
    (hc : (blkC Tx.N ⟨.function, X.env.scope.names, false, false, []⟩ scope (ownOf Tx.N scope.names) && tgIn ((ownOf Tx.N scope.names).map (·.2)) (trN Tx n (relN scope.names X.env.scope.names) tg) && !isSet it) = true) :
    LcP X G T b elt tg it ifs scope (ownOf Tx.N scope.names) (trE Tx n (relN scope.names X.env.scope.names) elt) (match ifs with | [] => .bl true | [c] => trE Tx n (relN scope.names X.env.scope.names) c | _ => .bad) (trN Tx n (relN scope.names X.env.scope.names) tg) := by
  simp only [Bool.and_eq_true, Bool.not_eq_true'] at hc
  obtain ⟨⟨h1, h2⟩, h3⟩ := hc
  have k := blkOk_by h1
  have nm : ∀ {cl : List (Str × Addr)} {C : Addr}, (compEnvC scope cl C X.env).scope.names = relN scope.names X.env.scope.names := fun {cl C} => names_rel Gd.kind
  refine ⟨by rw [Gd.eqN]; exact blk_of rfl h1, h2, fun s H C cl fp => ?_, fun s H C cl fp => ?_, fun s H C cl fp => ?_, fold_plain h3⟩
  · have g := gN (X := X.blk s H scope (compEnvC scope cl C X.env) fp) (Tx := Tx) Gd.calm Gd.nd Gd.eqN (some ((ownOf Tx.N scope.names).map (·.2))) (fun x i hx hl => by
      have hi := hl _ rfl
      rcases own_at k.uniq hx hi with q | q
      · right
        show (compEnvC scope cl C X.env).scope.names.lookup x = some .local
        rw [nm]; exact rel_local q
      · left
        show (scope.names.lookup x == some .cell) = true
        rw [q]; decide) n tg
    have e : (X.blk s H scope (compEnvC scope cl C X.env) fp).env.scope.names = relN scope.names X.env.scope.names := nm
    rw [e] at g
    exact g fun l hl => by cases hl; exact h2
  · have Gb := Gd.blk k.kind s H C cl fp
    have e : (X.blk s H scope (compEnvC scope cl C X.env) fp).env.scope.names = relN scope.names X.env.scope.names := nm
    match ifs with
    | [] =>
      refine ⟨fun pins s' σ H' Q I ⟨S, B, m, μ, ρ, hB, R, VV, P⟩ => pts_nil.run pins s' σ H' Q I ?_⟩
      exact PostT.now (show PostT G S B W0 m H' σ Q (.ok true μ) from P) R
    | [c] =>
      have := hO.t Gb (W := W0) takesN0 c
      rw [e] at this
      exact pts_one this
    | _ :: _ :: _ => exact ⟨fun _ _ _ _ _ _ ⟨_, _, _, _, _, _, _, _, P⟩ => False.elim P⟩
  · have Gb := Gd.blk k.kind s H C cl fp
    have e : (X.blk s H scope (compEnvC scope cl C X.env) fp).env.scope.names = relN scope.names X.env.scope.names := nm
    have := hO.e Gb (W := W0) takesN0 elt
    rw [e] at this
    exact this
theorem lcE_imp {p : Pos} {ee ce : E} {tg : Tg} {it : It} {own : List Nat} {σ : L2.St} {H : Hp} {Q : VK} (h : tE G T b W (lcE Tx p ee tg it ce own) σ H Q) : ∃ kf, tE G T b W (.lcd kf ee tg it ce own) σ H Q := by
  unfold lcE at h
  split at h
  · exact ⟨_, h⟩
  · obtain ⟨S, B, m, μ, ρ, hB, R, VV, P⟩ := h
    exact ⟨0, S, B, m, μ, ρ, hB, R, VV, by rw [← evE_lc0]; exact P⟩
theorem e_lc (Gd : Good X G Tx T) (tk : L2N.Takes X W) {n : Nat} (hO : OkN G Tx T b n) {elt tg it : Expr} {ifs : List Expr} {scope : Scope} {p : Pos}
    (hc : (blkC Tx.N ⟨.function, X.env.scope.names, false, false, []⟩ scope (ownOf Tx.N scope.names) && tgIn ((ownOf Tx.N scope.names).map (·.2)) (trN Tx n (relN scope.names X.env.scope.names) tg) && !isSet it) = true) :
    PE X (.ListComp elt [⟨tg, it, ifs, 0⟩] scope p) (tE G T b W (withTh Tx p (lcE Tx p (trE Tx n (relN scope.names X.env.scope.names) elt) (trN Tx n (relN scope.names X.env.scope.names) tg) (trI Tx n X.env.scope.names (isTup tg) it)
      (match ifs with | [] => .bl true | [c] => trE Tx n (relN scope.names X.env.scope.names) c | _ => .bad) ((ownOf Tx.N scope.names).map (·.2))))) := by
  have L := lc_parts (ifs := ifs) (elt := elt) Gd hO hc
  refine r_with ?_
  unfold lcE
  split
  · exact r_lcd Gd.eqK Gd.calm Gd.nd (hO.i Gd tk tg it) L.ok L.hin L.hg L.ht L.he L.hs
  · exact r_lc Gd.eqK Gd.calm Gd.nd (hO.i Gd tk tg it) L.ok L.hin L.hg L.ht L.he L.hs
theorem biL {x : Str} (Gd : Good X G Tx T) (h : x ∈ (["range", "zip", "enumerate", "str"] : List Str)) : X.mg x = none := Gd.bi x (List.mem_append_right _ h)
end
end VM

set_option Elab.async false
set_option maxRecDepth 100000
set_option autoImplicit false
set_option linter.unusedVariables false
/-! every expression: the induction -/
namespace VM
open PySem PySem.Spec PyProof.Rows L2
section
variable {X : Cx} {G : Gb} {Tx : Tr} {T : Tb} {b : Nat} {W : L2.WX}
theorem e_const {c : Const} {k : Nat} {p : Pos} : PE X (.Constant c k p) (tE G T b W (match c with | .int i => .int i | .bool b => .bl b | .none => .non | .str s => .str s | _ => .bad)) := by
  cases c with
  | int i => exact pe_int.mono fun σ H Q ⟨S, B, m, μ, ρ, hB, R, VV, P⟩ => PostE.val (show PostE G S B W m H σ Q (.ok (.int i, 0) μ) from P) R (.int i)
  | bool i => exact pe_bl.mono fun σ H Q ⟨S, B, m, μ, ρ, hB, R, VV, P⟩ => PostE.val (show PostE G S B W m H σ Q (.ok (.bl i, 0) μ) from P) R (.bl i)
  | none => exact pe_non.mono fun σ H Q ⟨S, B, m, μ, ρ, hB, R, VV, P⟩ => PostE.val (show PostE G S B W m H σ Q (.ok (.non, 0) μ) from P) R .non
  | str i => exact pe_str.mono fun σ H Q ⟨S, B, m, μ, ρ, hB, R, VV, P⟩ => PostE.val (show PostE G S B W m H σ Q (.ok (.str i, 0) μ) from P) R (.str i)
  | _ => exact pe_bad
theorem neg1_at {s : Expr} (h : isNeg1 s = true) : ∃ k p1 p2, s = .UnaryOp .USub (.Constant (.int 1) k p1) p2 := by
  cases s with
  | UnaryOp op a p =>
    unfold isNeg1 at h
    rw [Bool.and_eq_true] at h
    obtain ⟨h1, h2⟩ := h
    have h1 : op = .USub := by simpa using h1
    subst h1
    cases a with
    | Constant c k p2 =>
      cases c with
      | int i =>
        have : i = 1 := by simpa using h2
        subst this
        exact ⟨_, _, _, rfl⟩
      | _ => cases h2
    | _ => cases h2
  | _ => cases h
theorem e_any {n : Nat} (ih : OkN G Tx T b n) (Gd : Good X G Tx T) (tk : L2N.Takes X W) (e : Expr) : PE X e (tE G T b W (trE Tx (n + 1) X.env.scope.names e)) := by
  cases e with
  | Constant c k p => unfold trE; exact e_const
  | Name x p => unfold trE; exact e_name Gd
  | BinOp a op c p => unfold trE; exact r_with (r_bin Gd.eqK Gd.div (ih.e Gd tk a) (ih.e Gd tk c))
  | UnaryOp op a p =>
    unfold trE
    cases op with
    | USub => exact r_neg (ih.e Gd tk a)
    | Not => exact r_not Gd.eqK (ih.e Gd tk a)
    | _ => exact pe_bad
  | BoolOp op vs p => unfold trE; exact e_bool Gd.eqK fun v _ => ih.e Gd tk v
  | Compare a ops bs p =>
    unfold trE
    match ops, bs with
    | [op], [c] =>
      show PE X _ (tE G T b W (if isSet c then .bad else _))
      split
      · exact pe_bad
      · rename_i h; exact r_cmp Gd.eqK Gd.hu (by simpa using h) (ih.e Gd tk a) (ih.e Gd tk c)
    | [op, op2], [c, g] =>
      show PE X _ (tE G T b W (if isSet g then .bad else _))
      split
      · exact pe_bad
      · rename_i h; exact r_cmp2 Gd.eqK Gd.hu (by simpa using h) (ih.e Gd tk a) (ih.e Gd tk c) (ih.e Gd tk g)
    | [], _ => exact pe_bad
    | [_], [] => exact pe_bad
    | [_], _ :: _ :: _ => exact pe_bad
    | [_, _], [] => exact pe_bad
    | [_, _], [_] => exact pe_bad
    | [_, _], _ :: _ :: _ :: _ => exact pe_bad
    | _ :: _ :: _ :: _, _ => exact pe_bad
  | IfExp t a c p => unfold trE; exact r_ife (ih.t Gd tk t) (ih.e Gd tk a) (ih.e Gd tk c)
  | List es p =>
    unfold trE
    show PE X _ (tE G T b W (if es.any isStar then .bad else _))
    split
    · exact pe_bad
    · rename_i h; exact r_with (r_lst (r_args (by simpa using h) fun e _ => ih.e Gd tk e))
  | Tuple es k p =>
    unfold trE
    show PE X _ (tE G T b W (if es.any isStar then .bad else _))
    split
    · exact pe_bad
    · rename_i h; exact r_tup (r_args (by simpa using h) fun e _ => ih.e Gd tk e)
  | Subscript a i p =>
    unfold trE
    cases i with
    | Slice lo hi st p2 =>
      cases st with
      | some s =>
        show PE X _ (tE G T b W (if isNeg1 s && lo.isNone && hi.isNone then _ else .bad))
        split
        · rename_i h
          simp only [Bool.and_eq_true, Option.isNone_iff_eq_none] at h
          obtain ⟨⟨h1, rfl⟩, rfl⟩ := h
          obtain ⟨k, p1, p2, rfl⟩ := neg1_at h1
          exact r_with (r_rev (ih.e Gd tk a))
        · exact pe_bad
      | none =>
        refine r_with (r_slc Gd.eqK (ih.e Gd tk a) ?_ ?_)
        · cases lo with
          | none => rfl
          | some l => exact ih.e Gd tk l
        · cases hi with
          | none => rfl
          | some l => exact ih.e Gd tk l
    | _ => exact r_ix Gd.eqK (plainIx rfl) (ih.e Gd tk a) (ih.e Gd tk _)
  | Call f es ks p =>
    unfold trE
    show PE X _ (tE G T b W (if es.any isStar || !ks.isEmpty then .bad else _))
    split
    · exact pe_bad
    · rename_i h
      rw [Bool.or_eq_true, not_or] at h
      have hs : es.any isStar = false := by simpa using h.1
      have hk : ks = [] := by simpa using h.2
      subst hk
      cases f with
      | Name x p2 =>
        show PE X _ (tE G T b W (if globN X.env.scope.names x then _ else .bad))
        split
        · rename_i hg
          have hg : Gl X x := show X.env.scope.names.lookup x = some .globalImplicit from beq_iff_eq.mp hg
          split
          · rename_i hd
            simp only [Bool.and_eq_true, bne_iff_ne, ne_eq, Bool.not_eq_true', List.isEmpty_eq_false_iff] at hd
            obtain ⟨⟨hd1, hd2⟩, hd3⟩ := hd
            cases es with
            | nil => exact absurd rfl hd3
            | cons e es => exact r_with (r_call Gd tk hd1 hg (by rw [beq_eq_false_iff_ne]; exact hd2) hs (r_args hs fun e _ => ih.e Gd tk e))
          · split
            · rename_i hd
              simp only [Bool.and_eq_true, Bool.not_eq_true', List.isEmpty_eq_false_iff] at hd
              cases es with
              | nil => exact absurd rfl hd.2
              | cons e es => exact r_with (r_bi Gd hd.1 hg hs (r_args hs fun e _ => ih.e Gd tk e))
            · split
              · rename_i hd
                simp only [Bool.and_eq_true, Bool.not_eq_true', List.isEmpty_eq_false_iff, beq_iff_eq] at hd
                obtain ⟨hd1, hd2⟩ := hd
                subst hd1
                cases es with
                | nil => exact absurd rfl hd2
                | cons e es => exact r_with (r_str Gd hg hs (r_args hs fun e _ => ih.e Gd tk e))
              · exact pe_bad
        · exact pe_bad
      | Attribute o m ap =>
        show PE X _ (tE G T b W (if bmNames.contains m && simpleO o && (ap.endLine == p.line) && decide (es.length < 30) then _ else .bad))
        split
        · rename_i hd
          simp only [Bool.and_eq_true, decide_eq_true_eq] at hd
          exact r_with (r_bms hd.1.1.1 hd.1.1.2 hd.1.2 hd.2 hs (ih.e Gd tk o) (r_args hs fun e _ => ih.e Gd tk e) fun z => by subst z; rfl)
        · exact pe_bad
      | Subscript a i p2 =>
        show PE X _ (tE G T b W (if isSlice i || es.isEmpty then .bad else _))
        split
        · exact pe_bad
        · rename_i hd
          rw [Bool.or_eq_true, not_or] at hd
          cases es with
          | nil => exact absurd rfl hd.2
          | cons e es => exact r_with (r_calld Gd tk (r_ix Gd.eqK (plainIx (by simpa using hd.1)) (ih.e Gd tk a) (ih.e Gd tk i)) hs (r_args hs fun e _ => ih.e Gd tk e))
      | _ => exact pe_bad
  | ListComp elt gs scope p =>
    unfold trE
    match gs with
    | [⟨tg, it, ifs, a⟩] =>
      show PE X _ (tE G T b W (if a = 0 then _ else .bad))
      split
      · rename_i ha
        subst ha
        split
        · rename_i hc; exact e_lc Gd tk ih hc
        · exact pe_bad
      · exact pe_bad
    | [] => exact pe_bad
    | ⟨_, _, _, _⟩ :: _ :: _ => exact pe_bad
  | _ => unfold trE; exact pe_bad
theorem t_any {n : Nat} (ih : OkN G Tx T b n) (Gd : Good X G Tx T) (tk : L2N.Takes X W) (e : Expr) : PT X e (tT G T b W (trE Tx (n + 1) X.env.scope.names e)) := by
  have he := e_any ih Gd tk e
  cases e with
  | UnaryOp op a p =>
    cases op with
    | Not => unfold trE; exact t_not (ih.t Gd tk a)
    | _ => exact r_truth Gd.eqK he fun _ => rfl
  | BoolOp op vs p =>
    unfold trE
    cases vs with
    | nil => exact pt_bad
    | cons a vs => exact PW.pt (w_bool fun v _ => ih.t Gd tk v)
  | Compare a ops bs p =>
    unfold trE
    match ops, bs with
    | [op], [c] =>
      show PT X _ (tT G T b W (if isSet c then .bad else _))
      split
      · exact pt_bad
      · rename_i h; exact r_cmpT Gd.eqK Gd.hu (by simpa using h) (ih.e Gd tk a) (ih.e Gd tk c)
    | [op, op2], [c, g] =>
      show PT X _ (tT G T b W (if isSet g then .bad else _))
      split
      · exact pt_bad
      · rename_i h; exact r_cmp2T Gd.eqK Gd.hu (by simpa using h) (ih.e Gd tk a) (ih.e Gd tk c) (ih.e Gd tk g)
    | [], _ => exact pt_bad
    | [_], [] => exact pt_bad
    | [_], _ :: _ :: _ => exact pt_bad
    | [_, _], [] => exact pt_bad
    | [_, _], [_] => exact pt_bad
    | [_, _], _ :: _ :: _ :: _ => exact pt_bad
    | _ :: _ :: _ :: _, _ => exact pt_bad
  | IfExp t a c p => unfold trE; exact t_ife (ih.t Gd tk t) (ih.t Gd tk a) (ih.t Gd tk c)
  | _ => exact r_truth Gd.eqK he fun _ => rfl
theorem i_any {n : Nat} (ih : OkN G Tx T b n) (Gd : Good X G Tx T) (tk : L2N.Takes X W) (tg e : Expr) : PI X tg e (tI X.K G T b W (trI Tx (n + 1) X.env.scope.names (isTup tg) e)) := by
  have hx : PI X tg e (tI X.K G T b W (.ex (trE Tx n X.env.scope.names e))) := i_ex Gd.eqK (ih.e Gd tk e)
  cases e with
  | Call f es ks p =>
    unfold trI
    cases f with
    | Name x p2 =>
      show PI X _ _ (tI X.K G T b W (if globN X.env.scope.names x && !Tx.defs.contains x && ks.isEmpty then _ else _))
      split
      · rename_i h
        simp only [Bool.and_eq_true, List.isEmpty_iff] at h
        obtain ⟨⟨hg, _⟩, rfl⟩ := h
        have hg : Gl X x := show X.env.scope.names.lookup x = some .globalImplicit from beq_iff_eq.mp hg
        split
        · rename_i hr
          have hr : x = "range" := by simpa using hr
          subst hr
          match es with
          | [a] =>
            show PI X _ _ (tI X.K G T b W (if isStar a then _ else _))
            split
            · exact i_bad
            · rename_i h1; exact i_rng1 hg (biL Gd (by simp)) (by simpa using h1) (ih.e Gd tk a)
          | [a, c] =>
            show PI X _ _ (tI X.K G T b W (if isStar a || isStar c then _ else _))
            split
            · exact i_bad
            · rename_i h1
              rw [Bool.or_eq_true, not_or] at h1
              exact i_rng2 hg (biL Gd (by simp)) (by simpa using h1.1) (by simpa using h1.2) (ih.e Gd tk a) (ih.e Gd tk c)
          | [] => exact i_bad
          | _ :: _ :: _ :: _ => exact i_bad
        · split
          · rename_i hr
            have hr : x = "zip" := by simpa using hr
            subst hr
            match es with
            | [a, c] =>
              show PI X _ _ (tI X.K G T b W (if isStar a || isStar c || !isTup tg then _ else _))
              split
              · exact i_bad
              · rename_i h1
                rw [Bool.or_eq_true, not_or, Bool.or_eq_true, not_or] at h1
                cases tg with
                | Tuple ts k tp => exact i_zip Gd.eqK hg (biL Gd (by simp)) (by simpa using h1.1.1) (by simpa using h1.1.2) (ih.e Gd tk a) (ih.e Gd tk c)
                | _ => exact absurd rfl h1.2
            | [] => exact i_bad
            | [_] => exact i_bad
            | _ :: _ :: _ :: _ => exact i_bad
          · split
            · rename_i hr
              have hr : x = "enumerate" := by simpa using hr
              subst hr
              match es with
              | [a] =>
                show PI X _ _ (tI X.K G T b W (if isStar a || !isTup tg then _ else _))
                split
                · exact i_bad
                · rename_i h1
                  rw [Bool.or_eq_true, not_or] at h1
                  cases tg with
                  | Tuple ts k tp => exact i_enum Gd.eqK hg (biL Gd (by simp)) (by simpa using h1.1) (ih.e Gd tk a)
                  | _ => exact absurd rfl h1.2
              | [] => exact i_bad
              | _ :: _ :: _ => exact i_bad
            · exact hx
      · exact hx
    | _ => exact hx
  | _ => unfold trI; exact hx
theorem okN : ∀ n, OkN G Tx T b n
  | 0 => ⟨fun _ _ _ e => by unfold trE; exact pe_bad, fun _ _ _ e => by unfold trE; exact pt_bad, fun _ _ _ _ e => by unfold trI; exact i_bad⟩
  | n + 1 => ⟨fun Gd _ tk e => e_any (okN n) Gd tk e, fun Gd _ tk e => t_any (okN n) Gd tk e, fun Gd _ tk tg e => i_any (okN n) Gd tk tg e⟩
end
end VM

set_option Elab.async false
set_option maxRecDepth 100000
set_option autoImplicit false
set_option linter.unusedVariables false
/-! statements -/
namespace VM
open PySem PySem.Spec PyProof.Rows L2
def PostG (G : Gb) (S : AP_) (B : Nat → Prop) (W : L2.WX) (m : List Addr) (H : Hp) (Q : L2.St → Hp → Prop) : RS → Prop
  | .nx ρ' μ' => ∀ σ' H' m', Evo m H m' H' → Rep G S B m' μ' H' → EnvR G (av S m') m' H' σ' ρ' → Q σ' H'
  | .err x ρ' μ' => ∀ σ' cls dd H' m', Evo m H m' H' → Rep G S B m' μ' H' → EnvR G (av S m') m' H' σ' ρ' → ExcR G x cls dd H' → W cls dd σ' H'
  | _ => False
def PostS (G : Gb) (S : AP_) (B : Nat → Prop) (W : L2.WX) (m : List Addr) (H : Hp) (D : L2.Ends) : RS → Prop
  | .nx ρ' μ' => ∀ σ' H' m', Evo m H m' H' → Rep G S B m' μ' H' → EnvR G (av S m') m' H' σ' ρ' → D.nx σ' H'
  | .brk ρ' μ' => ∀ σ' H' m', Evo m H m' H' → Rep G S B m' μ' H' → EnvR G (av S m') m' H' σ' ρ' → D.bk σ' H'
  | .ct ρ' μ' => ∀ σ' H' m', Evo m H m' H' → Rep G S B m' μ' H' → EnvR G (av S m') m' H' σ' ρ' → D.ct σ' H'
  | .ret d f μ' => ∀ v H' m', Evo m H m' H' → Rep G S B m' μ' H' → RV G (av S m') m' H' v d → NWP f G S H m' μ' H' v d → D.rt v H'
  | .err x ρ' μ' => ∀ σ' cls dd H' m', Evo m H m' H' → Rep G S B m' μ' H' → EnvR G (av S m') m' H' σ' ρ' → ExcR G x cls dd H' → W cls dd σ' H'
  | .bad => False
def tS (G : Gb) (T : Tb) (b : Nat) (W : L2.WX) (st : S) : L2.TS := fun D σ H => ∃ S B m μ ρ, (∀ x, B x → x ≤ b) ∧ Rep G S B m μ H ∧ EnvR G (av S m) m H σ ρ ∧ PostS G S B W m H D (runS T b st ρ μ)
def tSs (G : Gb) (T : Tb) (b : Nat) (W : L2.WX) (st : Ss) : L2.TS := fun D σ H => ∃ S B m μ ρ, (∀ x, B x → x ≤ b) ∧ Rep G S B m μ H ∧ EnvR G (av S m) m H σ ρ ∧ PostS G S B W m H D (runSs T b st ρ μ)
def tTg (G : Gb) (T : Tb) (b : Nat) (W : L2.WX) (t : Tg) : L2.TG := fun v σ H Q => ∃ S B m μ ρ d, (∀ x, B x → x ≤ b) ∧ Rep G S B m μ H ∧ EnvR G (av S m) m H σ ρ ∧ RV G (av S m) m H v d ∧ PostG G S B W m H Q (asg T b t d ρ μ)
def tTgs (G : Gb) (T : Tb) (b : Nat) (W : L2.WX) (t : Tgs) : L2.TGs := fun vs σ H Q => ∃ S B m μ ρ ds, (∀ x, B x → x ≤ b) ∧ Rep G S B m μ H ∧ EnvR G (av S m) m H σ ρ ∧ RVs G (av S m) m H vs ds ∧ PostG G S B W m H Q (asgs T b t ds ρ μ)

section
variable {X : Cx} {G : Gb} {Tx : Tr} {T : Tb} {b : Nat} {W : L2.WX}
theorem _root_.L2.PS.mono {st : Stmt} {t t' : L2.TS} (h : PS X st t) (k : ∀ D σ H, t' D σ H → t D σ H) : PS X st t' := ⟨fun pins s σ H D I q => h.run pins s σ H D I (k _ _ _ q)⟩
theorem _root_.L2.PSs.mono {st : List Stmt} {t t' : L2.TS} (h : PSs X st t) (k : ∀ D σ H, t' D σ H → t D σ H) : PSs X st t' := ⟨fun pins s σ H D I q => h.run pins s σ H D I (k _ _ _ q)⟩
theorem _root_.L2.PG.mono {e : Expr} {t t' : L2.TG} (h : PG X e t) (k : ∀ v σ H Q, t' v σ H Q → t v σ H Q) : PG X e t' := ⟨fun pins s σ H v u Q I r q => h.run pins s σ H v u Q I r (k _ _ _ _ q)⟩
theorem _root_.L2.PGs.mono {e : List Expr} {t t' : L2.TGs} (h : PGs X e t) (k : ∀ v σ H Q, t' v σ H Q → t v σ H Q) : PGs X e t' := ⟨fun pins s σ H v u Q I r q => h.run pins s σ H v u Q I r (k _ _ _ _ q)⟩
theorem ps_bad {st : Stmt} : PS X st (tS G T b W .bad) := ⟨fun _ _ _ _ _ _ ⟨_, _, _, _, _, _, _, _, P⟩ => False.elim P⟩
section
variable {S : AP_} {B : Nat → Prop} {m m1 : List Addr} {μ : Sto} {H H1 : Hp} {σ : L2.St} {ρ : Ev}
theorem PostG.shift {r : RS} {Q : L2.St → Hp → Prop} (e : Evo m H m1 H1) (h : PostG G S B W m H Q r) : PostG G S B W m1 H1 Q r := by
  cases r with
  | nx ρ' μ' => exact fun σ' H' m' e1 => h σ' H' m' (e.trans e1)
  | err x ρ' μ' => exact fun σ' c dd H' m' e1 => h σ' c dd H' m' (e.trans e1)
  | _ => exact h
theorem PostS.shift {r : RS} {D : L2.Ends} (e : Evo m H m1 H1) (h : PostS G S B W m H D r) : PostS G S B W m1 H1 D r := by
  cases r with
  | nx ρ' μ' => exact fun σ' H' m' e1 => h σ' H' m' (e.trans e1)
  | brk ρ' μ' => exact fun σ' H' m' e1 => h σ' H' m' (e.trans e1)
  | ct ρ' μ' => exact fun σ' H' m' e1 => h σ' H' m' (e.trans e1)
  | ret d f μ' => exact fun v H' m' e1 R r n => h v H' m' (e.trans e1) R r (n.back e)
  | err x ρ' μ' => exact fun σ' c dd H' m' e1 => h σ' c dd H' m' (e.trans e1)
  | bad => exact h
theorem stE {r : R (D × Nat)} {f : D × Nat → Sto → RS} {D : L2.Ends} {Q1 : VK} (VV : EnvR G (av S m) m H σ ρ) (h : PostS G S B W m H D (r.st ρ f))
    (k : ∀ (d : VM.D × Nat) (μ1 : Sto) (v : V) (H1 : Hp) (m1 : List Addr), Evo m H m1 H1 → Rep G S B m1 μ1 H1 → RV G (av S m1) m1 H1 v d.1 → NWP d.2 G S H m1 μ1 H1 v d.1 → PostS G S B W m1 H1 D (f d μ1) → Q1 v H1) : PostE G S B W m H σ Q1 r := by
  cases r with
  | ok d μ1 => exact fun v H1 m1 e R r n => k d μ1 v H1 m1 e R r n (PostS.shift e h)
  | err x μ1 => exact fun c dd H' m' e R x => h σ c dd H' m' e R (VV.evo e) x
  | bad => exact h
theorem stT {r : R Bool} {f : Bool → Sto → RS} {D : L2.Ends} {Q1 : Bool → Hp → Prop} (VV : EnvR G (av S m) m H σ ρ) (h : PostS G S B W m H D (r.st ρ f))
    (k : ∀ (c : Bool) (μ1 : Sto) (H1 : Hp) (m1 : List Addr), Evo m H m1 H1 → Rep G S B m1 μ1 H1 → PostS G S B W m1 H1 D (f c μ1) → Q1 c H1) : PostT G S B W m H σ Q1 r := by
  cases r with
  | ok d μ1 => exact fun H1 m1 e R => k d μ1 H1 m1 e R (PostS.shift e h)
  | err x μ1 => exact fun c dd H' m' e R x => h σ c dd H' m' e R (VV.evo e) x
  | bad => exact h
theorem stI {K : PySem.W.Frag} {r : R Src} {f : Src → Sto → RS} {D : L2.Ends} {Q1 : L2.It → Hp → Prop} (VV : EnvR G (av S m) m H σ ρ) (h : PostS G S B W m H D (r.st ρ f))
    (k : ∀ (s : Src) (μ1 : Sto) (J : L2.It) (H1 : Hp) (m1 : List Addr), Evo m H m1 H1 → Rep G S B m1 μ1 H1 → SR K G S m1 H1 s J → PostS G S B W m1 H1 D (f s μ1) → Q1 J H1) : PostI K G S B W m H σ Q1 r := by
  cases r with
  | ok d μ1 => exact fun J H1 m1 e R sr => k d μ1 J H1 m1 e R sr (PostS.shift e h)
  | err x μ1 => exact fun c dd H' m' e R x => h σ c dd H' m' e R (VV.evo e) x
  | bad => exact h
end

/-! targets -/
theorem g_bad {e : Expr} : PG X e (tTg G T b W .bad) := ⟨fun _ _ _ _ _ _ _ _ _ ⟨_, _, _, _, _, _, _, _, _, _, P⟩ => False.elim P⟩
theorem g_name {i : Nat} {x : Str} {p : Pos} (hN : X.N.Nodup) (hi : X.N[i]? = some x) (hx : Loc X.env.scope x) (hf : X.fn x = true ∨ X.env.scope.names.lookup x = some .local) : PG X (.Name x p) (tTg G T b W (.name i)) :=
  (pg_name hN hi hx hf).mono fun v σ H Q ⟨S, B, m, μ, ρ, d, hB, R, VV, r, P⟩ => P _ H m (Evo.refl m H) R (VV.set i r)
theorem asg_sub {o i : E} {d : D} {ρ : Ev} {μ : Sto} : asg T b (.sub o i) d ρ μ = match evE T b o ρ μ with
    | .ok od μ1 => match evE T b i ρ μ1 with
      | .ok id μ2 => match setD b od.1 id.1 d μ2 with | some μ3 => .nx ρ μ3 | none => .bad
      | .err x μ2 => .err x ρ μ2
      | .bad => .bad
    | .err x μ1 => .err x ρ μ1
    | .bad => .bad := rfl
theorem set_at {S : AP_} {B : Nat → Prop} {m : List Addr} {μ μ3 : Sto} {H : Hp} {o i v : V} {od id d : D} {Q : Hp → Prop} (hB : ∀ x, B x → x ≤ b) (R : Rep G S B m μ H) (ro : RV G (av S m) m H o od) (ri : RV G (av S m) m H i id) (rv : RV G (av S m) m H v d)
    (h : setD b od id d μ = some μ3) (k : ∀ H', Evo m H m H' → Rep G S B m μ3 H' → Q H') : rSetL o i v H Q := by
  cases ro with
  | @cell l a hm =>
    cases ri with
    | int z =>
      have h : (match μ[l]? with
        | some (C.lst xs) => match ixN xs.length z with
          | some j => if mayPut b l d then some (μ.set l (.lst (xs.set j d))) else none
          | none => none
        | _ => none) = some μ3 := h
      split at h
      · rename_i xs hl
        split at h
        · rename_i j hj
          by_cases hp : mayPut b l d = true
          · rw [if_pos hp] at h
            cases h
            obtain ⟨vs, e, t⟩ := R.at_ l a _ hm hl
            have E : Evo m H m (upd H a (.lst (vs.set j v))) := Evo.put (List.mem_of_getElem? hm)
            refine ⟨a, vs, z, j, rfl, rfl, e, by rw [t.length]; exact hj, k _ E (R.put hm ⟨_, upd_same, (RVs.set rv j t).evo E⟩ fun x hx hlx => ?_)⟩
            show belowL x (xs.set j d)
            rw [belowL_iff]
            intro y hy
            rcases List.mem_or_eq_of_mem_set hy with hy | rfl
            · exact belowL_iff.mp (lev_items R hl x hx hlx) y hy
            · exact put_lev (S := S) (m := m) (μ := μ) (H := H) hB hp x hx hlx
          · rw [if_neg hp] at h; cases h
        · cases h
      · cases h
    | _ => cases h
  | _ => cases h
theorem g_sub {o i : Expr} {eo ei : E} {p : Pos} (hs : isSlice i = false) (ho : PE X o (tE G T b W eo)) (hi : PE X i (tE G T b W ei)) : PG X (.Subscript o i p) (tTg G T b W (.sub eo ei)) := by
  refine (pg_sub ho hi set_list (by intro v; cases i <;> first | rfl | cases hs)).mono fun v σ H Q ⟨S, B, m, μ, ρ, d, hB, R, VV, r, P⟩ => ⟨S, B, m, μ, ρ, hB, R, VV, ?_⟩
  rw [asg_sub] at P
  cases q : evE T b eo ρ μ with
  | bad => rw [q] at P; exact P
  | err x μ1 => rw [q] at P; exact fun c dd H' m' e R x => P σ c dd H' m' e R (VV.evo e) x
  | ok od μ1 =>
    rw [q] at P
    intro ov H1 m1 e1 R1 r1 _
    refine ⟨S, B, m1, μ1, ρ, hB, R1, VV.evo e1, ?_⟩
    have P : PostG G S B W m H Q (match evE T b ei ρ μ1 with
      | .ok id μ2 => match setD b od.1 id.1 d μ2 with | some μ3 => .nx ρ μ3 | none => .bad
      | .err x μ2 => .err x ρ μ2
      | .bad => .bad) := P
    cases q2 : evE T b ei ρ μ1 with
    | bad => rw [q2] at P; exact P
    | err x μ2 => rw [q2] at P; exact fun c dd H' m' e R x => P σ c dd H' m' (e1.trans e) R (VV.evo (e1.trans e)) x
    | ok id μ2 =>
      rw [q2] at P
      intro iv H2 m2 e2 R2 r2 _
      have P : PostG G S B W m H Q (match setD b od.1 id.1 d μ2 with | some μ3 => .nx ρ μ3 | none => .bad) := P
      cases q3 : setD b od.1 id.1 d μ2 with
      | none => rw [q3] at P; exact False.elim P
      | some μ3 =>
        rw [q3] at P
        exact set_at hB R2 (r1.evo e2) r2 (r.evo (e1.trans e2)) q3 fun H' e3 R3 => P σ H' m2 ((e1.trans e2).trans e3) R3 (VV.evo ((e1.trans e2).trans e3))
theorem g_nil : PGs X [] (tTgs G T b W .nil) := by
  refine pgs_nil.mono fun vs σ H Q ⟨S, B, m, μ, ρ, ds, hB, R, VV, t, P⟩ => ?_
  cases t with
  | nil => exact ⟨rfl, P σ H m (Evo.refl m H) R VV⟩
  | cons r t => exact False.elim P
theorem g_cons {e : Expr} {es : List Expr} {t : Tg} {ts : Tgs} (hs : isStar e = false) (h1 : PG X e (tTg G T b W t)) (h2 : PGs X es (tTgs G T b W ts)) : PGs X (e :: es) (tTgs G T b W (.cons t ts)) := by
  refine (pgs_cons h1 h2 (by rw [asg_cons hs]; rfl)).mono fun vs σ H Q ⟨S, B, m, μ, ρ, ds, hB, R, VV, tt, P⟩ => ?_
  cases tt with
  | nil => exact False.elim P
  | @cons v d vs ds r tt =>
    refine ⟨v, vs, rfl, S, B, m, μ, ρ, d, hB, R, VV, r, ?_⟩
    have P : PostG G S B W m H Q (match asg T b t d ρ μ with | .nx ρ1 μ1 => asgs T b ts ds ρ1 μ1 | r => r) := P
    cases q : asg T b t d ρ μ with
    | nx ρ1 μ1 =>
      rw [q] at P
      exact fun σ1 H1 m1 e1 R1 V1 => ⟨S, B, m1, μ1, ρ1, ds, hB, R1, V1, tt.evo e1, PostG.shift e1 P⟩
    | err x ρ1 μ1 => rw [q] at P; exact P
    | _ => rw [q] at P; exact False.elim P
theorem g_all {f : Expr → Tg} : ∀ {es : List Expr}, es.any isStar = false → (∀ e ∈ es, PG X e (tTg G T b W (f e))) → PGs X es (tTgs G T b W (tgsOf (es.map f)))
  | [], _, _ => g_nil
  | e :: es, hs, h => by
    rw [List.any_cons, Bool.or_eq_false_iff] at hs
    exact g_cons hs.1 (h e List.mem_cons_self) (g_all hs.2 fun x hx => h x (List.mem_cons_of_mem _ hx))
theorem g_tup {es : List Expr} {f : Expr → Tg} {k : Nat} {p : Pos} (calm : X.calm = true) (hs : es.any isStar = false) (h : ∀ e ∈ es, PG X e (tTg G T b W (f e))) : PG X (.Tuple es k p) (tTg G T b W (.tup (tgsOf (es.map f)))) := by
  obtain ⟨h1, h2⟩ := asg_len (env := X.env) hs
  refine (pg_tup (n := es.length) calm (g_all hs h) h1 h2).mono fun v σ H Q ⟨S, B, m, μ, ρ, d, hB, R, VV, r, P⟩ => ?_
  cases r with
  | @tup a vs xs hh nn tt =>
    have P : PostG G S B W m H Q (if xs.length = tgsLen (tgsOf (es.map f)) then asgs T b (tgsOf (es.map f)) xs ρ μ else .bad) := P
    rw [tgs_len] at P
    by_cases hl : xs.length = es.length
    · rw [if_pos hl] at P
      exact ⟨a, vs, rfl, .of hh, by rw [tt.length]; exact hl, S, B, m, μ, ρ, xs, hB, R, VV, tt, P⟩
    · rw [if_neg hl] at P; exact False.elim P
  | _ => exact False.elim P
/-! single statements -/
theorem only_nx {S : AP_} {B : Nat → Prop} {m : List Addr} {H : Hp} {D : L2.Ends} {r : RS} (P : PostS G S B W m H D (onlyNx r)) : PostG G S B W m H D.nx r := by
  cases r with
  | nx ρ μ => exact P
  | err x ρ μ => exact P
  | _ => exact False.elim P
theorem s_asg {tg e : Expr} {p : Pos} {ir : E} {t : Tg} (he : PE X e (tE G T b W ir)) (hg : PG X tg (tTg G T b W t)) (hs : swapsWithSole [tg] e p.line X.env = pure false) (hw : swappedStores [tg] e X.env = pure none) (h1 : isStar tg = false) : PS X (.Assign [tg] e p) (tS G T b W (.set t ir)) := by
  refine (ps_asg he hg hs hw (by rw [asg_cons h1]; rfl)).mono fun D σ H ⟨S, B, m, μ, ρ, hB, R, VV, P⟩ => ⟨S, B, m, μ, ρ, hB, R, VV, ?_⟩
  refine stE VV P fun d μ1 v H1 m1 e1 R1 r1 _ P1 => ⟨S, B, m1, μ1, ρ, d.1, hB, R1, VV.evo e1, r1, ?_⟩
  exact only_nx P1
theorem s_setLc {i : Nat} {y : Str} {py pos spos : Pos} {elt tg iter : Expr} {ifs : List Expr} {scope : Scope} {own : List (Str × Nat)} {ee ce : E} {tg' : Tg} {it' : It} {ir : E} (hK : X.K = G.K) (hc : X.calm = true) (hN : X.N.Nodup) (hk : X.env.scope.kind = .function) (hy : X.N[i]? = some y) (hyl : X.env.scope.names.lookup y = some .local)
    (hl : (py.line == pos.line) = true) (ha : (scope.names.any fun (n, k) => n == y && (k == .local || k == .cell)) = false) (hi : PI X tg iter (tI X.K G T b W it')) (L : LcP X G T b elt tg iter ifs scope own ee ce tg')
    (hir : ∀ σ H Q, tE G T b W ir σ H Q → ∃ kf, tE G T b W (.lcd kf ee tg' it' ce (own.map (·.2))) σ H Q) :
    PS X (.Assign [.Name y py] (.ListComp elt [⟨tg, iter, ifs, 0⟩] scope pos) spos) (tS G T b W (.set (.name i) ir)) := by
  refine (ps_setLc hc hN hy hyl (sw_true hk hyl hl ha) hi L.ok L.hg L.ht L.he L.hs).mono fun D σ H ⟨S, B, m, μ, ρ, hB, R, VV, P⟩ => ?_
  suffices q : tE G T b W ir σ H (fun x H1 => gName i x σ H1 D.nx) from let ⟨kf, q⟩ := hir σ H _ q; lc_imp hK L.hin q
  refine ⟨S, B, m, μ, ρ, hB, R, VV, ?_⟩
  refine stE VV P fun d μ1 v H1 m1 e1 R1 r1 _ P1 => ?_
  exact only_nx P1 _ H1 m1 (Evo.refl m1 H1) R1 ((VV.evo e1).set i r1)
theorem s_par {i j : Nat} {x y : Str} {a c : Expr} {ea ec : E} {px py pt pos : Pos} {kt k2 : Nat} {pt2 : Pos} (hc : X.calm = true) (hN : X.N.Nodup) (hi : X.N[i]? = some x) (hj : X.N[j]? = some y) (hxy : x ≠ y)
    (hx : X.env.scope.names.lookup x = some .local) (hy : X.env.scope.names.lookup y = some .local) (h1 : isStar a = false) (h2 : isStar c = false) (ha : PE X a (tE G T b W ea)) (hcc : PE X c (tE G T b W ec))
    (hw : swappedStores [.Tuple [.Name x px, .Name y py] kt pt] (.Tuple [a, c] k2 pt2) X.env = pure (some [x, y])) :
    PS X (.Assign [.Tuple [.Name x px, .Name y py] kt pt] (.Tuple [a, c] k2 pt2) pos) (tS G T b W (.par i j ea ec)) := by
  have hij : i ≠ j := fun z => hxy (by subst z; rw [hi] at hj; exact Option.some.inj hj)
  refine (ps_par hc hN hi hj hij hx hy (pa_cons ha (pa_cons hcc pa_nil (star_cons h2)) (star_cons h1)) hw rfl).mono fun D σ H ⟨S, B, m, μ, ρ, hB, R, VV, P⟩ => ⟨S, B, m, μ, ρ, hB, R, VV, ?_⟩
  refine stE VV P fun d μ1 v H1 m1 e1 R1 r1 _ P1 => ⟨S, B, m1, μ1, ρ, hB, R1, VV.evo e1, ?_⟩
  refine stE (VV.evo e1) P1 fun d2 μ2 v2 H2 m2 e2 R2 r2 _ P2 => ⟨v, v2, rfl, ?_⟩
  exact P2 _ H2 m2 (Evo.refl m2 H2) R2 ((((VV.evo e1).evo e2).set i (r1.evo e2)).set j r2)
theorem s_expr {e : Expr} {ir : E} {p : Pos} (h : isLc e = false) (he : PE X e (tE G T b W ir)) : PS X (.Expr e p) (tS G T b W (.expr ir)) := by
  refine (ps_expr he (by cases e <;> first | rfl | cases h)).mono fun D σ H ⟨S, B, m, μ, ρ, hB, R, VV, P⟩ => ⟨S, B, m, μ, ρ, hB, R, VV, ?_⟩
  exact stE VV P fun d μ1 v H1 m1 e1 R1 r1 _ P1 => P1 σ H1 m1 (Evo.refl m1 H1) R1 (VV.evo e1)
theorem s_ret {e : Expr} {ir : E} {p : Pos} (he : PE X e (tE G T b W ir)) : PS X (.Return (some e) p) (tS G T b W (.ret ir)) := by
  refine (ps_ret he).mono fun D σ H ⟨S, B, m, μ, ρ, hB, R, VV, P⟩ => ⟨S, B, m, μ, ρ, hB, R, VV, ?_⟩
  have P : PostS G S B W m H D ((evE T b ir ρ μ).st ρ fun d μ1 => .ret d.1 d.2 μ1) := P
  cases q : evE T b ir ρ μ with
  | ok d μ1 => rw [q] at P; exact fun v H1 m1 e R r n => P v H1 m1 e R r n
  | err x μ1 => rw [q] at P; exact fun c dd H' m' e R x => P σ c dd H' m' e R (VV.evo e) x
  | bad => rw [q] at P; exact P
theorem s_retn {p : Pos} : PS X (.Return none p) (tS G T b W .retn) :=
  ps_retN.mono fun D σ H ⟨S, B, m, μ, ρ, hB, R, VV, P⟩ => PostE.val (σ := σ) (W := W) (show PostE G S B W m H σ D.rt (.ok (.non, 0) μ) from fun v H' m' e R r n => P v H' m' e R r n) R .non
theorem s_pass {p : Pos} : PS X (.Pass p) (tS G T b W .pass) := ps_pass.mono fun D σ H ⟨S, B, m, μ, ρ, hB, R, VV, P⟩ => P σ H m (Evo.refl m H) R VV
theorem s_brk {p : Pos} : PS X (.Break p) (tS G T b W .brk) := ps_break.mono fun D σ H ⟨S, B, m, μ, ρ, hB, R, VV, P⟩ => P σ H m (Evo.refl m H) R VV
theorem s_cnt {p : Pos} : PS X (.Continue p) (tS G T b W .cnt) := ps_continue.mono fun D σ H ⟨S, B, m, μ, ρ, hB, R, VV, P⟩ => P σ H m (Evo.refl m H) R VV
theorem s_doc {x : Str} {j : Nat} {p p2 : Pos} : PS X (.Expr (.Constant (.str x) j p) p2) (tS G T b W .pass) := ps_doc.mono fun D σ H ⟨S, B, m, μ, ρ, hB, R, VV, P⟩ => P σ H m (Evo.refl m H) R VV
theorem s_if {c : Expr} {x y : List Stmt} {ec : E} {ex ey : Ss} {p : Pos} (hc : PT X c (tT G T b W ec)) (hx : PSs X x (tSs G T b W ex)) (hy : PSs X y (tSs G T b W ey)) : PS X (.If c x y p) (tS G T b W (.ife ec ex ey)) := by
  refine (ps_if hc hx hy).mono fun D σ H ⟨S, B, m, μ, ρ, hB, R, VV, P⟩ => ⟨S, B, m, μ, ρ, hB, R, VV, ?_⟩
  refine stT VV P fun k μ1 H1 m1 e1 R1 P1 => ?_
  cases k with
  | true => exact iteT ⟨S, B, m1, μ1, ρ, hB, R1, VV.evo e1, P1⟩
  | false => exact iteF ⟨S, B, m1, μ1, ρ, hB, R1, VV.evo e1, P1⟩
theorem ss_nil : PSs X [] (tSs G T b W .nil) := pss_nil.mono fun D σ H ⟨S, B, m, μ, ρ, hB, R, VV, P⟩ => P σ H m (Evo.refl m H) R VV
theorem ss_cons {st : Stmt} {sts : List Stmt} {s : VM.S} {ss : Ss} (h1 : PS X st (tS G T b W s)) (h2 : PSs X sts (tSs G T b W ss)) : PSs X (st :: sts) (tSs G T b W (.cons s ss)) := by
  refine (pss_cons h1 h2).mono fun D σ H ⟨S, B, m, μ, ρ, hB, R, VV, P⟩ => ⟨S, B, m, μ, ρ, hB, R, VV, ?_⟩
  have P : PostS G S B W m H D (match runS T b s ρ μ with | .nx ρ1 μ1 => runSs T b ss ρ1 μ1 | r => r) := P
  cases q : runS T b s ρ μ with
  | nx ρ1 μ1 => rw [q] at P; exact fun σ' H' m' e R V' => ⟨S, B, m', μ1, ρ1, hB, R, V', PostS.shift e P⟩
  | ret d f μ1 => rw [q] at P; exact P
  | brk ρ1 μ1 => rw [q] at P; exact P
  | ct ρ1 μ1 => rw [q] at P; exact P
  | err x ρ1 μ1 => rw [q] at P; exact P
  | bad => rw [q] at P; exact P
theorem s_for {tg it : Expr} {body : List Stmt} {t : Tg} {ir : It} {bs : Ss} {p : Pos} (hK : X.K = G.K) (hp : PassesOwn (model X.prog X.w) X.A X.env X.xe) (hc : X.calm = true) (hi : PI X tg it (tI X.K G T b W ir)) (hg : PG X tg (tTg G T b W t)) (hb : PSs X body (tSs G T b W bs))
    (hs : ∀ x, foldedSetIterable it X.env x = pure x) : PS X (.For tg it body [] p) (tS G T b W (.for_ t ir bs)) := by
  refine (ps_for hp hc hi hg hb hs).mono fun D σ H ⟨S, B, m, μ, ρ, hB, R, VV, P⟩ => ⟨S, B, m, μ, ρ, hB, R, VV, ?_⟩
  refine stI VV P fun src μ1 J H1 m1 e1 R1 sr P1 => ?_
  refine ⟨fun i k σ' H' => ∃ m' μ' ρ', Rep G S B m' μ' H' ∧ EnvR G (av S m') m' H' σ' ρ' ∧ SR G.K G S m' H' src J ∧ PostS G S B W m' H' D (forLoop (asg T b t) (fun ρ μ => runSs T b bs ρ μ) src k i ρ' μ'), ⟨_, m1, μ1, ρ, R1, VV.evo e1, hK ▸ sr, P1⟩, ?_⟩
  rintro i k σ' H' ⟨m', μ', ρ', R', V', sr', P'⟩
  cases k with
  | zero => exact False.elim P'
  | succ k =>
    have P' : PostS G S B W m' H' D (match src.at μ' i with
      | .bad => .bad
      | .done => .nx ρ' μ'
      | .item x => match asg T b t x ρ' μ' with
        | .nx ρ1 μ1 => match runSs T b bs ρ1 μ1 with
          | .nx ρ2 μ2 => forLoop (asg T b t) (fun ρ μ => runSs T b bs ρ μ) src k (i + 1) ρ2 μ2
          | .ct ρ2 μ2 => forLoop (asg T b t) (fun ρ μ => runSs T b bs ρ μ) src k (i + 1) ρ2 μ2
          | .brk ρ2 μ2 => .nx ρ2 μ2
          | r => r
        | .err x ρ μ => .err x ρ μ
        | _ => .bad) := P'
    rcases sr'.turn R' i with h | ⟨h, hst⟩ | ⟨d, h, hgo, hy⟩
    · rw [h] at P'; exact False.elim P'
    · rw [h] at P'
      exact .inl ⟨hst, P' σ' H' m' (Evo.refl m' H') R' V'⟩
    · rw [h] at P'
      refine .inr ⟨hgo, _, fun σ'' H'' hw => ⟨k, Nat.lt_succ_self k, hw⟩, fun x H'' y => ?_⟩
      obtain ⟨sm, rx⟩ := hy x H'' y
      have EG := Evo.grow (m := m') sm
      have P' := PostS.shift EG P'
      refine ⟨S, B, m', μ', ρ', d, hB, R'.grow sm, V'.evo EG, rx, ?_⟩
      cases q : asg T b t d ρ' μ' with
      | nx ρ1 μ1 =>
        have P' : PostS G S B W m' H'' D (match asg T b t d ρ' μ' with
          | .nx ρ1 μ1 => match runSs T b bs ρ1 μ1 with
            | .nx ρ2 μ2 => forLoop (asg T b t) (fun ρ μ => runSs T b bs ρ μ) src k (i + 1) ρ2 μ2
            | .ct ρ2 μ2 => forLoop (asg T b t) (fun ρ μ => runSs T b bs ρ μ) src k (i + 1) ρ2 μ2
            | .brk ρ2 μ2 => .nx ρ2 μ2
            | r => r
          | .err x ρ μ => .err x ρ μ
          | _ => .bad) := P'
        rw [q] at P'
        intro σ2 H2 m2 e2 R2 V2
        refine ⟨S, B, m2, μ1, ρ1, hB, R2, V2, ?_⟩
        have P' := PostS.shift e2 P'
        have sr2 := (sr'.imp (fun _ _ => EG.at) (evo_hk EG)).imp (fun _ _ => e2.at) (evo_hk e2)
        have P' : PostS G S B W m2 H2 D (match runSs T b bs ρ1 μ1 with
            | .nx ρ2 μ2 => forLoop (asg T b t) (fun ρ μ => runSs T b bs ρ μ) src k (i + 1) ρ2 μ2
            | .ct ρ2 μ2 => forLoop (asg T b t) (fun ρ μ => runSs T b bs ρ μ) src k (i + 1) ρ2 μ2
            | .brk ρ2 μ2 => .nx ρ2 μ2
            | r => r) := P'
        cases q2 : runSs T b bs ρ1 μ1 with
        | nx ρ3 μ3 => rw [q2] at P'; exact fun σ3 H3 m3 e3 R3 V3 => ⟨m3, μ3, ρ3, R3, V3, sr2.imp (fun _ _ => e3.at) (evo_hk e3), PostS.shift e3 P'⟩
        | ct ρ3 μ3 => rw [q2] at P'; exact fun σ3 H3 m3 e3 R3 V3 => ⟨m3, μ3, ρ3, R3, V3, sr2.imp (fun _ _ => e3.at) (evo_hk e3), PostS.shift e3 P'⟩
        | brk ρ3 μ3 => rw [q2] at P'; exact P'
        | ret d f μ3 => rw [q2] at P'; exact P'
        | err x ρ3 μ3 => rw [q2] at P'; exact P'
        | bad => rw [q2] at P'; exact P'
      | err x ρ1 μ1 => simp only [q] at P'; exact P'
      | _ => simp only [q] at P'; exact False.elim P'
theorem s_while {c : Expr} {body : List Stmt} {ec : E} {bs : Ss} {p : Pos} (hwh : ∀ f, T.wh f ≠ .bad → ∃ n, f n = T.wh f) (hp : PassesOwn (model X.prog X.w) X.A X.env X.xe) (hc : PT X c (tT G T b W ec)) (hb : PSs X body (tSs G T b W bs)) : PS X (.While c body [] p) (tS G T b W (.while_ ec bs)) := by
  refine (ps_while hp hc hb).mono fun D σ H ⟨S, B, m, μ, ρ, hB, R, VV, P⟩ => ?_
  have P : PostS G S B W m H D (T.wh fun n => whLoop (fun ρ μ => tst (evE T b ec ρ μ)) (fun ρ μ => runSs T b bs ρ μ) n ρ μ) := P
  obtain ⟨n, hn⟩ := hwh (fun n => whLoop (fun ρ μ => tst (evE T b ec ρ μ)) (fun ρ μ => runSs T b bs ρ μ) n ρ μ) fun z => by rw [z] at P; exact P
  rw [← hn] at P
  refine ⟨fun k σ' H' => ∃ m' μ' ρ', Rep G S B m' μ' H' ∧ EnvR G (av S m') m' H' σ' ρ' ∧ PostS G S B W m' H' D (whLoop (fun ρ μ => tst (evE T b ec ρ μ)) (fun ρ μ => runSs T b bs ρ μ) k ρ' μ'), ⟨n, m, μ, ρ, R, VV, P⟩, ?_⟩
  rintro k σ' H' ⟨m', μ', ρ', R', V', P'⟩
  cases k with
  | zero => exact False.elim P'
  | succ k =>
    refine ⟨S, B, m', μ', ρ', hB, R', V', ?_⟩
    refine stT V' P' fun t μ1 H1 m1 e1 R1 P1 => ?_
    cases t with
    | false => exact iteF (P1 σ' H1 m1 (Evo.refl m1 H1) R1 (V'.evo e1))
    | true =>
      refine iteT ⟨_, fun σ'' H'' hw => ⟨k, Nat.lt_succ_self k, hw⟩, S, B, m1, μ1, ρ', hB, R1, V'.evo e1, ?_⟩
      have P1 : PostS G S B W m1 H1 D (match runSs T b bs ρ' μ1 with
        | .nx ρ2 μ2 => whLoop (fun ρ μ => tst (evE T b ec ρ μ)) (fun ρ μ => runSs T b bs ρ μ) k ρ2 μ2
        | .ct ρ2 μ2 => whLoop (fun ρ μ => tst (evE T b ec ρ μ)) (fun ρ μ => runSs T b bs ρ μ) k ρ2 μ2
        | .brk ρ2 μ2 => .nx ρ2 μ2
        | r => r) := P1
      cases q2 : runSs T b bs ρ' μ1 with
      | nx ρ3 μ3 => rw [q2] at P1; exact fun σ3 H3 m3 e3 R3 V3 => ⟨m3, μ3, ρ3, R3, V3, PostS.shift e3 P1⟩
      | ct ρ3 μ3 => rw [q2] at P1; exact fun σ3 H3 m3 e3 R3 V3 => ⟨m3, μ3, ρ3, R3, V3, PostS.shift e3 P1⟩
      | brk ρ3 μ3 => rw [q2] at P1; exact P1
      | ret d f μ3 => rw [q2] at P1; exact P1
      | err x ρ3 μ3 => rw [q2] at P1; exact P1
      | bad => rw [q2] at P1; exact P1
end
end VM

set_option Elab.async false
set_option maxRecDepth 100000
set_option autoImplicit false
set_option linter.unusedVariables false
/-! every statement -/
namespace VM
open PySem PySem.Spec PyProof.Rows L2
section
variable {X : Cx} {G : Gb} {Tx : Tr} {T : Tb} {b : Nat} {W : L2.WX}
structure GoodS (X : Cx) (T : Tb) (W : L2.WX) : Prop where
  fn : ∀ x, X.fn x = true
  st : X.stack = X.env :: X.outer
  fr : X.env.frame = some X.env.locals
  own : PassesOwn (model X.prog X.w) X.A X.env X.xe
  tk : L2N.Takes X W
  wh : ∀ f, T.wh f ≠ .bad → ∃ n, f n = T.wh f
theorem sw_none {e : Expr} {t : Option Expr} {l : Nat} {env : Env} (h : isLc e = false) : swapsWith e t l env = pure false := by
  cases e <;> first | rfl | cases h
theorem sw_notName {e t : Expr} {l : Nat} {env : Env} (h : ∀ x p, t ≠ .Name x p) : swapsWith e (some t) l env = pure false := by
  cases t with
  | Name x p => exact absurd rfl (h x p)
  | _ => cases e <;> rfl
theorem sw_cell {e : Expr} {x : Str} {p : Pos} {l : Nat} {env : Env} (h : env.scope.names.lookup x = some .cell) : swapsWith e (some (.Name x p)) l env = pure false := by
  have hk : env.kindOf x = some .cell := h
  by_cases hl : isLc e = false
  · exact sw_none hl
  · have key : ∀ (pp : Pos) (scope : Scope), (pure (env.blockKind == .function && env.kindOf x == some .local && p.line == pp.line && !(scope.names.any fun (n, k) => n == x && (k == .local || k == .cell))) : Sem Bool) = pure false := by
      intro pp scope
      rw [hk]
      have : ((some NameKind.cell == some NameKind.local) : Bool) = false := by decide
      rw [this]; simp
    cases e <;> first | exact absurd rfl hl | skip
    · exact key _ _
    · exact key _ _
    · exact key _ _
theorem block_fn {env : Env} (h : env.scope.kind = .function) : (env.blockKind != .function) = false := by
  unfold Env.blockKind; rw [h]; rfl
theorem ss_noTup {t e : Expr} {env : Env} (h : isTup t = false ∨ isTup e = false) (h2 : ∀ es p, t ≠ .List es p) : swappedStores [t] e env = pure none := by
  cases t with
  | List es p => exact absurd rfl (h2 es p)
  | Tuple ts k p =>
    rcases h with h | h
    · cases h
    · cases e <;> first | rfl | cases h
  | _ => cases e <;> rfl
theorem ss_notAll {ts es : List Expr} {k k2 : Nat} {p p2 : Pos} {env : Env} (h : ts.all (locName env.scope.names (lineOf ts)) = false) : swappedStores [.Tuple ts k p] (.Tuple es k2 p2) env = pure none := by
  show (if (!(ts.length == 2 || ts.length == 3) || es.length != ts.length || env.blockKind != .function) = true then pure none else _) = (pure none : Sem (Option (List Str)))
  split
  · rfl
  · split
    · rfl
    · have hlen : ∀ (l : Nat) (ts : List Expr), ts.all (locName env.scope.names l) = false → ((ts.filterMap fun | .Name id pos => if (env.kindOf id == some .local && pos.line == l) = true then some id else none | _ => none).length != ts.length) = true := by
        intro l ts
        induction ts with
        | nil => intro h; cases h
        | cons t ts ih =>
          intro h
          rw [List.all_cons, Bool.and_eq_false_iff] at h
          have le := List.length_filterMap_le (fun | Expr.Name id pos => if (env.kindOf id == some .local && pos.line == l) = true then some id else none | _ => none) ts
          rw [List.filterMap_cons]
          rcases h with h | h
          · have hn : (match t with | Expr.Name id pos => if (env.kindOf id == some .local && pos.line == l) = true then some id else none | _ => none) = none := by
              cases t with
              | Name x q =>
                have h : (env.kindOf x == some .local && q.line == l) = false := h
                show (if (env.kindOf x == some .local && q.line == l) = true then some x else none) = none
                rw [h]; rfl
              | _ => rfl
            rw [hn]
            simp only [List.length_cons, bne_iff_ne, ne_eq]
            omega
          · have := ih h
            simp only [bne_iff_ne, ne_eq] at this
            split <;> simp only [List.length_cons, bne_iff_ne, ne_eq] <;> omega
      have hl : (ts.head?.map (·.pos.line)).getD 0 = lineOf ts := by cases ts <;> rfl
      have := hlen (lineOf ts) ts h
      show (if _ then pure none else _) = _
      rw [if_pos]
      rw [Bool.or_eq_true]
      left
      rw [hl]
      exact this
theorem ss_par {x y : Str} {a c : Expr} {px py pt pt2 : Pos} {kt k2 : Nat} {env : Env} (hk : env.scope.kind = .function) (hx : env.scope.names.lookup x = some .local) (hy : env.scope.names.lookup y = some .local) (hl : py.line = px.line) (hxy : x ≠ y) (ha : isStar a = false) (hc : isStar c = false)
    (h1 : [a, c].all (foldedForSure 8) = false) (h2 : [a, c].all (constantsAlone 8) = false) : swappedStores [.Tuple [.Name x px, .Name y py] kt pt] (.Tuple [a, c] k2 pt2) env = pure (some [x, y]) := by
  have kx : env.kindOf x = some .local := hx
  have ky : env.kindOf y = some .local := hy
  unfold swappedStores
  simp only [List.length_cons, List.length_nil, List.any_cons, List.any_nil, block_fn hk, List.head?_cons, Option.map_some, Option.getD_some, List.filterMap_cons, List.filterMap_nil, kx, ky, Expr.pos, hl]
  have e1 : ([x, y] : List Str).eraseDups.length = 2 := by
    have : (y == x) = false := by rw [beq_eq_false_iff_ne]; exact fun z => hxy z.symm
    simp [List.eraseDups_cons, this]
  simp [e1, h1, h2]
  rintro (h | h)
  · cases a <;> first | (cases ha; done) | cases h
  · cases c <;> first | (cases hc; done) | cases h
theorem gT_name (Gd : Good X G Tx T) (Gs : GoodS X T W) {x : Str} {p : Pos} : PG X (.Name x p) (tTg G T b W (trN Tx 60 X.env.scope.names (.Name x p))) := by
  unfold trN
  show PG X _ (tTg G T b W (if X.env.scope.names.lookup x == some .local || X.env.scope.names.lookup x == some .cell then (match slotOf Tx.N x with | some i => .name i | none => .bad) else .bad))
  split
  · rename_i hk
    cases hs : slotOf Tx.N x with
    | none => exact g_bad
    | some i =>
      rw [Bool.or_eq_true] at hk
      refine g_name Gd.nd (by rw [Gd.eqN]; exact slot_at hs) ?_ (.inl (Gs.fn x))
      rcases hk with hk | hk
      · exact .inl (by simpa using hk)
      · exact .inr (by simpa using hk)
  · exact g_bad
theorem gT_names (Gd : Good X G Tx T) (Gs : GoodS X T W) : ∀ (n : Nat) (e : Expr), PG X e (tTg G T b W (trN Tx n X.env.scope.names e))
  | 0, e => by unfold trN; exact g_bad
  | n + 1, e => by
    cases e with
    | Name x p => exact gT_name Gd Gs
    | Tuple es k p =>
      unfold trN
      show PG X _ (tTg G T b W (if es.any isStar then .bad else _))
      split
      · exact g_bad
      · rename_i hk
        exact g_tup Gd.calm (by simpa using hk) fun e _ => gT_names Gd Gs n e
    | _ => unfold trN; exact g_bad
theorem gT_sub (Gd : Good X G Tx T) (Gs : GoodS X T W) {o i : Expr} {p : Pos} : PG X (.Subscript o i p) (tTg G T b W (if isSlice i then .bad else .sub (trE Tx 60 X.env.scope.names o) (trE Tx 60 X.env.scope.names i))) := by
  split
  · exact g_bad
  · rename_i h
    exact g_sub (by simpa using h) ((okN 60).e Gd Gs.tk o) ((okN 60).e Gd Gs.tk i)
theorem gT_any (Gd : Good X G Tx T) (Gs : GoodS X T W) (e : Expr) : PG X e (tTg G T b W (trAsg.trT' Tx X.env.scope.names e)) := by
  cases e with
  | Name x p => exact gT_name Gd Gs
  | Subscript o i p => exact gT_sub Gd Gs
  | Tuple es k p =>
    show PG X _ (tTg G T b W (if es.any isStar then .bad else _))
    split
    · exact g_bad
    · rename_i hk
      refine g_tup Gd.calm (by simpa using hk) fun e _ => ?_
      cases e with
      | Name x p => exact gT_name Gd Gs
      | Subscript o i p => exact gT_sub Gd Gs
      | Tuple es k p => exact gT_names Gd Gs 60 (.Tuple es k p)
      | _ => exact g_bad
  | _ => exact g_bad
theorem s_setBad {t e : Expr} {p : Pos} {tg : Tg} : PS X (.Assign [t] e p) (tS G T b W (.set tg .bad)) := ⟨fun _ _ _ _ _ _ ⟨_, _, _, _, _, _, _, _, P⟩ => False.elim P⟩
theorem s_asgGen (Gd : Good X G Tx T) (Gs : GoodS X T W) {t e : Expr} {p : Pos} (h1 : isStar t = false) (h2 : isListE t = false) (h3 : isTup t = false ∨ isTup e = false) (h4 : isLc e = false ∨ (∀ x q, t ≠ .Name x q) ∨ ∃ x q, t = .Name x q ∧ X.env.scope.names.lookup x = some .cell) :
    PS X (.Assign [t] e p) (tS G T b W (.set (trAsg.trT' Tx X.env.scope.names t) (trE Tx 60 X.env.scope.names e))) := by
  refine s_asg ((okN 60).e Gd Gs.tk e) (gT_any Gd Gs t) ?_ (ss_noTup h3 fun es q z => by subst z; cases h2) h1
  show swapsWith e (some t) p.line X.env = pure false
  rcases h4 with h | h | ⟨x, q, rfl, h⟩
  · exact sw_none h
  · exact sw_notName h
  · exact sw_cell h
theorem s_asgLc (Gd : Good X G Tx T) (Gs : GoodS X T W) {x : Str} {i : Nat} {p p2 spos : Pos} {elt : Expr} {gs : List Comprehension} {scope : Scope} (hx : X.env.scope.names.lookup x = some .local) (hl : p.line = p2.line) (ha : (scope.names.any fun y => y.1 == x && (y.2 == .local || y.2 == .cell)) = false) (hs : slotOf Tx.N x = some i) :
    PS X (.Assign [.Name x p] (.ListComp elt gs scope p2) spos) (tS G T b W (.set (.name i) (trE Tx 60 X.env.scope.names (.ListComp elt gs scope p2)))) := by
  match gs with
  | [] => exact s_setBad
  | ⟨_, _, _, _⟩ :: _ :: _ => exact s_setBad
  | [⟨tg, it, ifs, a⟩] =>
    unfold trE
    show PS X _ (tS G T b W (.set _ (if a = 0 then _ else .bad)))
    by_cases h0 : a = 0
    · subst h0
      rw [if_pos rfl]
      split
      · rename_i hc
        have L := lc_parts (b := b) (ifs := ifs) (elt := elt) Gd (okN 59) hc
        exact s_setLc Gd.eqK Gd.calm Gd.nd Gd.kind (by rw [Gd.eqN]; exact slot_at hs) hx (by simpa using hl) ha ((okN 59).i Gd Gs.tk tg it) L fun σ H Q q => lcE_imp (with_imp q)
      · exact s_setBad
    · rw [if_neg h0]; exact s_setBad
theorem s_asgAny (Gd : Good X G Tx T) (Gs : GoodS X T W) (t e : Expr) (p : Pos) : PS X (.Assign [t] e p) (tS G T b W (trAsg Tx X.env.scope.names t e)) := by
  have gen : isTup t = false ∨ isTup e = false → (isLc e = false ∨ ∀ x q, t ≠ .Name x q) → PS X (.Assign [t] e p) (tS G T b W (if isStar t || isListE t then .bad else .set (trAsg.trT' Tx X.env.scope.names t) (trE Tx 60 X.env.scope.names e))) := by
    intro h3 h4
    split
    · exact ps_bad
    · rename_i h
      rw [Bool.or_eq_true, not_or] at h
      exact s_asgGen Gd Gs (by simpa using h.1) (by simpa using h.2) h3 (h4.elim .inl fun z => .inr (.inl z))
  cases t with
  | Tuple ts k q =>
    cases e with
    | Tuple es k2 q2 =>
      show PS X _ (tS G T b W (if ts.all (locName X.env.scope.names (lineOf ts)) then _ else _))
      split
      · rename_i hall
        split
        · rename_i x px y py a c
          split
          · exact ps_bad
          · rename_i hh
            simp only [Bool.or_eq_true, not_or, Bool.not_eq_true] at hh
            obtain ⟨⟨⟨⟨h1, h2⟩, h3⟩, h4⟩, h5⟩ := hh
            have hxy : x ≠ y := by simpa using h1
            have hall : (locName X.env.scope.names px.line (.Name x px) && (locName X.env.scope.names px.line (.Name y py) && true)) = true := hall
            rw [Bool.and_true, Bool.and_eq_true] at hall
            have hx : (X.env.scope.names.lookup x == some .local && px.line == px.line) = true := hall.1
            have hy : (X.env.scope.names.lookup y == some .local && py.line == px.line) = true := hall.2
            rw [Bool.and_eq_true] at hx hy
            have hx1 := beq_iff_eq.mp hx.1
            have hy1 := beq_iff_eq.mp hy.1
            cases hs1 : slotOf Tx.N x with
            | none => exact ps_bad
            | some i =>
              cases hs2 : slotOf Tx.N y with
              | none => exact ps_bad
              | some j =>
                exact s_par Gd.calm Gd.nd (by rw [Gd.eqN]; exact slot_at hs1) (by rw [Gd.eqN]; exact slot_at hs2) hxy hx1 hy1 h2 h3 ((okN 60).e Gd Gs.tk a) ((okN 60).e Gd Gs.tk c) (ss_par Gd.kind hx1 hy1 (by simpa using hy.2) hxy h2 h3 h4 h5)
        · exact ps_bad
      · rename_i hall
        refine s_asg ((okN 60).e Gd Gs.tk _) (gT_any Gd Gs _) (show swapsWith (.Tuple es k2 q2) (some (.Tuple ts k q)) p.line X.env = pure false from sw_none rfl) (ss_notAll (by simpa using hall)) rfl
    | _ => exact gen (.inr rfl) (.inr fun x q z => by cases z)
  | Name x q =>
    cases e with
    | ListComp elt gs scope p2 =>
      show PS X _ (tS G T b W (if X.env.scope.names.lookup x == some .cell then _ else _))
      split
      · rename_i h
        exact s_asgGen Gd Gs rfl rfl (.inl rfl) (.inr (.inr ⟨x, q, rfl, by simpa using h⟩))
      · split
        · rename_i h
          simp only [Bool.and_eq_true, Bool.not_eq_true', beq_iff_eq] at h
          cases hs : slotOf Tx.N x with
          | none => exact ps_bad
          | some i => exact s_asgLc Gd Gs h.1.1 h.1.2 (by simpa using h.2) hs
        · exact ps_bad
    | SetComp elt gs scope p2 => exact s_setBad
    | DictComp a elt gs scope p2 => exact s_setBad
    | _ => exact gen (.inl rfl) (.inl rfl)
  | _ => exact gen (.inl rfl) (.inr fun x q z => by cases z)
theorem s_raise (Gd : Good X G Tx T) (Gs : GoodS X T W) {c m : Str} {j : Nat} {p p2 p3 pos : Pos} (hc : Tx.rz.contains c = true) (hg : Gl X c) (hd : (c == ("__debug__" : Str)) = false) : PS X (.Raise (some (.Call (.Name c p) [.Constant (.str m) j p2] [] p3)) none pos) (tS G T b W (.raise_ c)) := by
  obtain ⟨C, h⟩ := Gd.rz c hc
  refine (L2N.ps_raise Gd.calm Gs.tk (L2N.pmk_own PySem.F.excBase_ValueError h.exc h.gl h.kp (raises_own h.sub h.ty) hg hd)).mono fun D σ H ⟨S, B, m, μ, ρ, hB, R, VV, P⟩ => ?_
  have P : PostS G S B W m H D (.err ⟨c, none⟩ ρ μ) := P
  exact P σ (.ref C) none H m (Evo.refl m H) R VV ⟨C, rfl, h.fn, rfl⟩
/-- _law_name_of(e), e the exception that the suite holds -/
theorem pe_callNm {X : Cx} {prog : Program} {w : World} {mg : Str → Option Value} {base : Heap} (e1 : X.prog = prog) (e2 : X.w = w) (e3 : X.mg = mg) (e4 : X.base = base) {K : PySem.W.Frag} (e5 : X.K = K) (nr : NameRun prog w K mg base G) (rm : Room 1 X.A) {a : Addr} {oe : Obj} {pn : List (Addr × Obj)} {C : Addr} {c x : Str} {i : Nat} {q p3 pos : Pos}
    (hc : c ∈ excNames) (hC : G.f c = some (.ref C)) (hz : L2N.Zn (.ref C) none oe) (hf : ∃ vs, oe.data = .fields vs) (hg : Gl X "_law_name_of") (hN : X.N[i]? = some x) (hv : X.env.scope.names.lookup x = some .local) (hd : (x == ("__debug__" : Str)) = false) (hcd : (x == ("__classdict__" : Str)) = false) :
    PE (X.suite a ((a, oe) :: pn)) (.Call (.Name "_law_name_of" q) [.Name x p3] [] pos) (fun σ H Q => σ[i]? = some (some (.ref a)) ∧ ∀ H', Same H H' → Q (.str (c ++ "+")) H') := by
  subst e1 e2 e3 e4 e5
  obtain ⟨fa, fd, hm, hk, hb, run⟩ := nr
  refine ⟨fun pins s σ H Q I ⟨hs, h⟩ => ?_⟩
  refine wpAny_Call_Name_kw (ld_glob I hg hm ?_ (by decide))
  have ha : PA (X.suite a ((a, oe) :: pn)) [.Name x p3] _ := pa_cons (pe_var (i := i) hN (.inl hv) hd hcd) pa_nil
  refine PySem.W.callWith_K (h₀ := X.base) I.ok.mod.kin hk (thn (ha.run pos pins s σ H (fun vs H1 => vs = [.ref a] ∧ H1 = H) I ⟨_, hs, rfl, rfl⟩) fun us s1 ⟨vs, H1, I1, r, ev, eH⟩ => ⟨I1.kIn, ?_⟩)
  subst ev
  rw [eH] at I1
  cases r with
  | cons ru rn =>
    cases rn; cases ru
    have P1 := I1.pin (a, oe) (List.mem_append_left _ List.mem_cons_self)
    have hpin : L2H.PinOk X.stack H s1 (a, oe) := ⟨P1.1, P1.2.1, fun hm => (List.mem_cons.mp (I1.stkSub a hm)).elim P1.2.2.1 P1.2.2.2.1, P1.2.2.2.2⟩
    have hot : L2H.Hot1 (X.A.mark (some (.ref a))) (a, oe) := ⟨rfl, let ⟨vs, e⟩ := hf; ⟨vs, e, hz.2.2 vs e⟩⟩
    have bb := hb s1 [.ref a] I1.kIn rfl
    refine wpAny_call (codeAny_mono (run c C hc hC (X.A.mark (some (.ref a))) X.stack s1 H ⟨[.ref a], []⟩ (a, oe) (L2H.roomH_mark rm _) hot hpin I1.env0 (hz.zc) bb) fun r s' hq => ?_)
    cases r with
    | error e =>
      have hq : L2N.CX X.prog X.w X.stack H s1 (fun _ _ _ => False) e s' := hq
      obtain ⟨_, _, _, _, _, _, _, _, _, _, _, _, z⟩ := hq
      exact z.elim
    | ok fl =>
      cases fl with
      | ret u =>
        obtain ⟨v, H', a1, a2, a3, a4, a5, rfl, a6⟩ := hq
        exact I1.after ⟨_, H', a1, a2, a3, a4, a5, h H' a6⟩
      | next => exact False.elim hq
      | brk => exact False.elim hq
      | cont => exact False.elim hq
theorem set3 {α : Type} (l : List (Option α)) (i j : Nat) (x y : α) : ((l.set j (some x)).set i (some y)).set j none = (l.set i (some y)).set j none := by
  by_cases h : i = j
  · subst h; simp [List.set_set]
  · rw [List.set_comm _ _ (Ne.symm h), List.set_set]
theorem s_try (Gd : Good X G Tx T) (Gs : GoodS X T W) {i j : Nat} {f e : Str} {body : List Stmt} {ir : Ss} {np p1 p2 p3 p4 p5 pos' pos : Pos} (ht : Tx.tr = true) (hr : Gl X "RowError") (hg : Gl X "_law_name_of") (hi : X.N[i]? = some f) (hj : X.N[j]? = some e)
    (lf : X.env.scope.names.lookup f = some .local) (le : X.env.scope.names.lookup e = some .local) (hd : (e == ("__debug__" : Str)) = false) (hcd : (e == ("__classdict__" : Str)) = false)
    (hb : ∀ (W : L2.WX) (pn : List (Addr × Obj)) (xe : Value → Shared → Prop), L2N.Takes (X.tr pn xe) W → PassesOwn (model X.prog X.w) X.A X.env xe → PSs (X.tr pn xe) body (tSs G T b W ir)) :
    PS X (.Try body [.ExceptHandler (some (.Name "RowError" np)) (some e) [.Assign [.Name f p1] (.Call (.Name "_law_name_of" p2) [.Name e p3] [] p4) p5] pos'] [] [] pos) (tS G T b W (.try_ ir i j)) := by
  obtain ⟨⟨Rc, hR, hm⟩, nr⟩ := Gd.tr ht
  refine (L2N.ps_try_as (i := j) (c := .ref Rc) (ts := fun a cls d => fun D σ H => ∃ c C, cls = .ref C ∧ d = none ∧ c ∈ excNames ∧ G.f c = some (.ref C) ∧ σ[j]? = some (some (.ref a)) ∧ ∀ H', Same H H' → D.nx (σ.set i (some (.str (c ++ "+")))) H') Gs.st Gs.fr Gd.nd hj le ⟨hr, by decide, .inl hR⟩ Gs.tk hb fun a oe cls d pn hz hf => ?_).mono fun D σ H ⟨S, B, m, μ, ρ, hB, R, VV, P⟩ => ⟨S, B, m, μ, ρ, hB, R, VV, ?_⟩
  · -- the suite
    refine ⟨fun pins s σ H D I ⟨c, C, e1, e2, hc, hC, hs, h⟩ => ?_⟩
    subst e1 e2
    have he := pe_callNm (X := X) (a := a) rfl rfl rfl rfl rfl nr Gd.rm (q := p2) (p3 := p3) (pos := p4) (pn := pn) hc hC hz hf hg hj le hd hcd
    have st : PSs (X.suite a ((a, oe) :: pn)) [.Assign [.Name f p1] (.Call (.Name "_law_name_of" p2) [.Name e p3] [] p4) p5] _ := pss_one (ps_asg he (pg_name (i := i) (pos := p1) Gd.nd hi (.inl lf) (.inr lf)) (show swapsWith (.Call (.Name "_law_name_of" p2) [.Name e p3] [] p4) (some (Expr.Name f p1)) p5.line X.env = pure false from sw_none rfl) (ss_noTup (.inl rfl) fun es q z => by cases z))
    exact st.run pins s σ H D I ⟨hs, h⟩
  · have P : PostS G S B W m H D (match runSs T b ir ρ μ with
      | .err e ρ1 μ1 => if excNames.contains e.cls && e.val.isNone && decide (j < ρ1.length) then .nx ((ρ1.set i (some (.str (e.cls ++ "+")))).set j none) μ1 else .bad
      | r => r) := P
    cases hq : runSs T b ir ρ μ with
    | nx ρ' μ' => rw [hq] at P; exact P
    | ret d f μ' => rw [hq] at P; exact P
    | brk ρ' μ' => rw [hq] at P; exact P
    | ct ρ' μ' => rw [hq] at P; exact P
    | bad => rw [hq] at P; exact P
    | err x ρ' μ' =>
      rw [hq] at P
      intro σ' cls dd H' m' ev R' VV' ⟨C, e1, e2, e3⟩
      have P : PostS G S B W m H D (if excNames.contains x.cls && x.val.isNone && decide (j < ρ'.length) then .nx ((ρ'.set i (some (.str (x.cls ++ "+")))).set j none) μ' else .bad) := P
      by_cases hx : (excNames.contains x.cls && x.val.isNone && decide (j < ρ'.length)) = true
      · rw [if_pos hx] at P
        simp only [Bool.and_eq_true, decide_eq_true_eq, Option.isNone_iff_eq_none] at hx
        obtain ⟨⟨hx1, hx2⟩, hx3⟩ := hx
        have hx1 : x.cls ∈ excNames := by simpa using hx1
        rw [hx2] at e3
        have e3 : dd = none := e3
        subst e1 e3
        refine ⟨true, hm _ C hx1 e2, fun _ a ha => ⟨x.cls, C, rfl, rfl, hx1, e2, List.getElem?_set_self (by rw [VV'.len]; exact hx3), fun H2 sm => ?_⟩, fun z => by cases z⟩
        show D.nx (((σ'.set j (some (.ref a))).set i (some (.str (x.cls ++ "+")))).set j none) H2
        rw [set3]
        have E := Evo.grow (m := m') sm
        exact P _ H2 m' (ev.trans E) (R'.grow sm) ((((VV'.evo E).set i (.str _))).unset j)
      · rw [if_neg hx] at P; exact False.elim P
theorem raise_at {e c : Option Expr} {x : Str} (h : raiseOf e c = some x) : ∃ m k p1 p2 p3, e = some (.Call (.Name x p1) [.Constant (.str m) k p2] [] p3) ∧ c = none := by
  unfold raiseOf at h
  split at h
  · cases h; exact ⟨_, _, _, _, _, rfl, rfl⟩
  · cases h
theorem try_at {hs : List ExceptHandler} {y z : List Stmt} {f e : Str} (h : tryOf hs y z = some (f, e)) : ∃ p1 p2 p3 p4 p5 p6 p7, hs = [.ExceptHandler (some (.Name "RowError" p1)) (some e) [.Assign [.Name f p2] (.Call (.Name "_law_name_of" p3) [.Name e p4] [] p5) p6] p7] ∧ y = [] ∧ z = [] := by
  unfold tryOf at h
  split at h
  · rename_i r _ e0 f0 _ g _ e2 _ _ _ _
    by_cases h2 : (r == ("RowError" : Str) && g == ("_law_name_of" : Str) && e2 == e0) = true
    · rw [if_pos h2] at h
      simp only [Bool.and_eq_true, beq_iff_eq] at h2
      obtain ⟨⟨rfl, rfl⟩, rfl⟩ := h2
      cases h
      exact ⟨_, _, _, _, _, _, _, rfl, rfl, rfl⟩
    · rw [if_neg h2] at h; cases h
  · cases h
theorem s_any : ∀ (n : Nat) {X : Cx}, Good X G Tx T → ∀ {W : L2.WX}, GoodS X T W → ∀ (st : Stmt), PS X st (tS G T b W (trS Tx X.env.scope.names n st))
  | 0, X, _, _, _, st => by unfold trS; exact ps_bad
  | n + 1, X, Gd, W, Gs, st => by
    have ih := s_any n Gd Gs
    have all : ∀ (l : List Stmt), PSs X l (tSs G T b W (ssOf (l.map (trS Tx X.env.scope.names n)))) := by
      intro l
      induction l with
      | nil => exact ss_nil
      | cons x l ihl => exact ss_cons (ih x) ihl
    have eT := okN (G := G) (Tx := Tx) (T := T) (b := b) 60
    cases st with
    | Assign ts e p =>
      unfold trS
      match ts with
      | [t] => exact s_asgAny Gd Gs t e p
      | [] => exact ps_bad
      | _ :: _ :: _ => exact ps_bad
    | Expr e p =>
      have gen : PS X (.Expr e p) (tS G T b W (if isLc e then .bad else .expr (trE Tx 60 X.env.scope.names e))) := by
        split
        · exact ps_bad
        · rename_i h; exact s_expr (by simpa using h) (eT.e Gd Gs.tk e)
      unfold trS
      cases e with
      | Constant c k q =>
        cases c with
        | str x => exact s_doc
        | _ => exact gen
      | _ => exact gen
    | Return e p =>
      cases e with
      | none => unfold trS; exact s_retn
      | some e => unfold trS; exact s_ret (eT.e Gd Gs.tk e)
    | If t x y p => unfold trS; exact s_if (eT.t Gd Gs.tk t) (all x) (all y)
    | For t it x y p =>
      unfold trS
      show PS X _ (tS G T b W (if y.isEmpty && !isSet it then _ else .bad))
      split
      · rename_i h
        rw [Bool.and_eq_true] at h
        have hy : y = [] := by simpa using h.1
        subst hy
        exact s_for Gd.eqK Gs.own Gd.calm (eT.i Gd Gs.tk t it) (gT_names Gd Gs 60 t) (all x) (fold_plain (by simpa using h.2))
      · exact ps_bad
    | While t x y p =>
      unfold trS
      show PS X _ (tS G T b W (if y.isEmpty then _ else .bad))
      split
      · rename_i h
        have hy : y = [] := by simpa using h
        subst hy
        exact s_while Gs.wh Gs.own (eT.t Gd Gs.tk t) (all x)
      · exact ps_bad
    | Raise e c p =>
      unfold trS
      show PS X _ (tS G T b W (match raiseOf e c with | some x => if Tx.rz.contains x && globN X.env.scope.names x && x != "__debug__" then .raise_ x else .bad | none => .bad))
      cases h : raiseOf e c with
      | none => exact ps_bad
      | some x =>
        obtain ⟨m, k, p1, p2, p3, rfl, rfl⟩ := raise_at h
        dsimp only
        split
        · rename_i h
          simp only [Bool.and_eq_true, bne_iff_ne, ne_eq] at h
          exact s_raise Gd Gs h.1.1 (show X.env.scope.names.lookup x = some .globalImplicit from beq_iff_eq.mp h.1.2) (by rw [beq_eq_false_iff_ne]; exact h.2)
        · exact ps_bad
    | Try x hs y z p =>
      unfold trS
      show PS X _ (tS G T b W (match tryOf hs y z with
        | some (f, e) => if Tx.tr && globN X.env.scope.names "RowError" && globN X.env.scope.names "_law_name_of" && X.env.scope.names.lookup e == some .local && X.env.scope.names.lookup f == some .local && e != "__debug__" && e != "__classdict__" then
            (match slotOf Tx.N f, slotOf Tx.N e with | some i, some j => .try_ (ssOf (x.map (trS Tx X.env.scope.names n))) i j | _, _ => .bad) else .bad
        | none => .bad))
      cases h : tryOf hs y z with
      | none => exact ps_bad
      | some fe =>
        obtain ⟨f, e⟩ := fe
        obtain ⟨p1, p2, p3, p4, p5, p6, p7, rfl, rfl, rfl⟩ := try_at h
        dsimp only
        split
        · rename_i h
          simp only [Bool.and_eq_true, bne_iff_ne, ne_eq] at h
          obtain ⟨⟨⟨⟨⟨⟨h1, h2⟩, h3⟩, h4⟩, h5⟩, h6⟩, h7⟩ := h
          cases hf : slotOf Tx.N f with
          | none => exact ps_bad
          | some i =>
            cases he : slotOf Tx.N e with
            | none => exact ps_bad
            | some j =>
              refine s_try Gd Gs h1 (show X.env.scope.names.lookup ("RowError" : Str) = some .globalImplicit from beq_iff_eq.mp h2) (show X.env.scope.names.lookup ("_law_name_of" : Str) = some .globalImplicit from beq_iff_eq.mp h3) (by rw [Gd.eqN]; exact slot_at hf) (by rw [Gd.eqN]; exact slot_at he)
                (beq_iff_eq.mp h5) (beq_iff_eq.mp h4) (by rw [beq_eq_false_iff_ne]; exact h6) (by rw [beq_eq_false_iff_ne]; exact h7) fun W' pn xe tk po => ?_
              have Gd' : Good (X.tr pn xe) G Tx T := ⟨Gd.calm, Gd.eqK, Gd.nd, Gd.eqN, Gd.hu, Gd.div, Gd.rm, Gd.rz, Gd.tr, Gd.kind, Gd.bi, Gd.gd, Gd.gl, Gd.calld, Gd.call⟩
              have Gs' : GoodS (X.tr pn xe) T W' := ⟨Gs.fn, Gs.st, Gs.fr, po, tk, Gs.wh⟩
              have ih' := s_any n Gd' Gs'
              have all' : ∀ (l : List Stmt), PSs (X.tr pn xe) l (tSs G T b W' (ssOf (l.map (trS Tx X.env.scope.names n)))) := by
                intro l
                induction l with
                | nil => exact ss_nil
                | cons x l ihl => exact ss_cons (ih' x) ihl
              exact all' x
        · exact ps_bad
    | Pass p => unfold trS; exact s_pass
    | Break p => unfold trS; exact s_brk
    | Continue p => unfold trS; exact s_cnt
    | _ => unfold trS; exact ps_bad
end
end VM

set_option Elab.async false
set_option maxRecDepth 100000
set_option autoImplicit false
set_option linter.unusedVariables false
/-! the way out of a def -/
namespace VM
open PySem PySem.Spec PyProof.Rows L2
section
variable {G : Gb} {S : AP_} {B : Nat → Prop} {m m' m0 : List Addr} {μ μ' : Sto} {H H' : Hp}
mutual
theorem RV.bel {A : AP_} : ∀ {v : V} {d : D}, RV G A m H v d → below m.length d
  | _, _, .non => by unfold VM.below; trivial
  | _, _, .bl b => by unfold VM.below; trivial
  | _, _, .int i => by unfold VM.below; trivial
  | _, _, .str s => by unfold VM.below; trivial
  | _, _, .ty n => by unfold VM.below; trivial
  | _, _, .fn g => by unfold VM.below; trivial
  | _, _, .lst r n t => by unfold VM.below; exact RVs.bel t
  | _, _, .tup r n t => by unfold VM.below; exact RVs.bel t
  | _, _, .cell e => by unfold VM.below; exact (List.getElem?_eq_some_iff.mp e).1
  | _, _, .scr h => by unfold VM.below; trivial
theorem RVs.bel {A : AP_} : ∀ {vs : List V} {ds : List D}, RVs G A m H vs ds → belowL m.length ds
  | _, _, .nil => by unfold VM.belowL; trivial
  | _, _, .cons r t => by unfold VM.belowL; exact ⟨RV.bel r, RVs.bel t⟩
end
theorem below_mono {a b : Nat} (h : a ≤ b) : ∀ (n : Nat) (d : D), sizeOf d < n → below a d → below b d
  | 0, _, z, _ => absurd z (Nat.not_lt_zero _)
  | n + 1, d, z, k => by
    cases d with
    | cell l => exact Nat.lt_of_lt_of_le k h
    | lst xs => 
      unfold below at k ⊢
      rw [belowL_iff] at k ⊢
      exact fun x hx => below_mono h n x (by have := List.sizeOf_lt_of_mem hx; simp at z; omega) (k x hx)
    | tup xs =>
      unfold below at k ⊢
      rw [belowL_iff] at k ⊢
      exact fun x hx => below_mono h n x (by have := List.sizeOf_lt_of_mem hx; simp at z; omega) (k x hx)
    | _ => unfold below; trivial
theorem RVs.mem {A : AP_} : ∀ {vs : List V} {ds : List D} {d : D}, RVs G A m H vs ds → d ∈ ds → ∃ v, RV G A m H v d
  | _, _, _, .nil, e => by simp at e
  | _, _, _, .cons r t, e => by
    rcases List.mem_cons.mp e with rfl | e
    · exact ⟨_, r⟩
    · exact RVs.mem t e
theorem CR.below {A : AP_} {a : Addr} {c : C} (r : CR G A m H a c) : cBelow m.length c := by
  cases c with
  | lst ds => obtain ⟨vs, e, t⟩ := r; exact t.bel
  | dct kvs =>
    obtain ⟨ks, e, k, t⟩ := r
    intro p hp
    obtain ⟨v, q⟩ := t.mem (List.mem_map_of_mem hp)
    exact q.bel
  | ins c fs =>
    obtain ⟨x, y, z, g, e, k, t⟩ := r
    intro p hp
    obtain ⟨v, q⟩ := t.mem (List.mem_map_of_mem hp)
    exact q.bel
theorem Rep.enter (R : Rep G S B m μ H) : Rep G S (fun x => B x ∨ x = μ.length) m μ H :=
  ⟨R.len, R.nd, R.at_, fun x hx => by
    rcases hx with hx | rfl
    · exact R.lev x hx
    · refine ⟨Nat.le_refl _, fun l c hl h => ?_⟩
      have hl' : l < m.length := by rw [R.len]; exact hl
      have := (R.at_ l m[l] c (List.getElem?_eq_getElem hl') h).below
      rw [R.len] at this; exact this, R.trk⟩
mutual
theorem RV.impB {A A' : AP_} {n : Nat} (hm : ∀ (l : Nat) (a : Addr), l < n → m[l]? = some a → m'[l]? = some a) (hk : ∀ a o, H a = some o → ¬ A a → H' a = some o ∧ ¬ A' a) :
    ∀ {v : V} {d : D}, RV G A m H v d → VM.below n d → RV G A' m' H' v d
  | _, _, .non, _ => .non
  | _, _, .bl b, _ => .bl b
  | _, _, .int i, _ => .int i
  | _, _, .str s, _ => .str s
  | _, _, .ty n, _ => .ty n
  | _, _, .fn g, _ => .fn g
  | _, _, .lst (a := a) r n t, b => by
    unfold VM.below at b
    rcases r with r | ⟨o, r⟩
    · exact .lst (.inl (hk _ _ r n).1) (hk _ _ r n).2 (RVs.impB hm hk t b)
    · exact .lst (.inr ⟨o, (hk _ _ r n).1⟩) (hk _ _ r n).2 (RVs.impB hm hk t b)
  | _, _, .tup r n t, b => by
    unfold VM.below at b
    exact .tup (hk _ _ r n).1 (hk _ _ r n).2 (RVs.impB hm hk t b)
  | _, _, .cell e, b => .cell (hm _ _ b e)
  | _, _, .scr h, _ => by
    rcases h with ⟨r | ⟨o, r⟩, n⟩ | h
    · exact .scr (.inl ⟨.inl (hk _ _ r n).1, (hk _ _ r n).2⟩)
    · exact .scr (.inl ⟨.inr ⟨o, (hk _ _ r n).1⟩, (hk _ _ r n).2⟩)
    · exact .scr (.inr h)
theorem RVs.impB {A A' : AP_} {n : Nat} (hm : ∀ (l : Nat) (a : Addr), l < n → m[l]? = some a → m'[l]? = some a) (hk : ∀ a o, H a = some o → ¬ A a → H' a = some o ∧ ¬ A' a) :
    ∀ {vs : List V} {ds : List D}, RVs G A m H vs ds → VM.belowL n ds → RVs G A' m' H' vs ds
  | _, _, .nil, _ => .nil
  | _, _, .cons r t, b => by
    unfold VM.belowL at b
    exact .cons (RV.impB hm hk r b.1) (RVs.impB hm hk t b.2)
end
theorem RVs.impM {A A' : AP_} {n : Nat} {fs : List D} (hm : ∀ (l : Nat) (a : Addr), l < n → m[l]? = some a → m'[l]? = some a) (hk : ∀ a o, H a = some o → ¬ A a → H' a = some o ∧ ¬ A' a) {vs : List V}
    (t : RVs G A m H vs fs) (b : ∀ d ∈ fs, VM.below n d) : RVs G A' m' H' vs fs := t.impB hm hk (belowL_iff.mpr b)
theorem CR.impB {A A' : AP_} {a : Addr} {c : C} {n : Nat} (hm : ∀ (l : Nat) (a : Addr), l < n → m[l]? = some a → m'[l]? = some a) (hk : ∀ a o, H a = some o → ¬ A a → H' a = some o ∧ ¬ A' a)
    (ha : ∀ o, H a = some o → H' a = some o) (r : CR G A m H a c) (b : cBelow n c) : CR G A' m' H' a c := by
  cases c with
  | lst ds => obtain ⟨vs, e, t⟩ := r; exact ⟨vs, ha _ e, t.impB hm hk b⟩
  | dct kvs =>
    obtain ⟨ks, e, k, t⟩ := r
    refine ⟨ks, ha _ e, k, t.impM hm hk fun d hd => ?_⟩
    obtain ⟨p, hp, rfl⟩ := List.mem_map.mp hd
    exact b p hp
  | ins c fs =>
    obtain ⟨x, y, z, g, e, k, t⟩ := r
    refine ⟨x, y, z, g, ha _ e, k, t.impM hm hk fun d hd => ?_⟩
    obtain ⟨p, hp, rfl⟩ := List.mem_map.mp hd
    exact b p hp
theorem Rep.cut {n : Nat} (R : Rep G S (fun x => B x ∨ x = n) m μ H) (hB : ∀ x, B x → x ≤ n) : Rep G S B (m.take n) (μ.take n) H := by
  have hn := R.lev n (.inr rfl)
  have hsub : ∀ a, a ∈ m.take n → a ∈ m := fun a h => List.mem_of_mem_take h
  refine ⟨by rw [List.length_take, List.length_take, R.len], R.nd.sublist (List.take_sublist n m), fun l a c h1 h2 => ?_, fun x hx => ?_, fun a z => ⟨(R.trk a z).1, fun w => (R.trk a z).2 (hsub a w)⟩⟩
  · rw [List.getElem?_take] at h1 h2
    split at h1
    · rename_i hl
      rw [if_pos hl] at h2
      exact (R.at_ l a c h1 h2).impB (n := n) (fun k b hk e => by rw [List.getElem?_take, if_pos hk]; exact e) (fun b o e z => ⟨e, fun w => z (w.elim .inl fun w => .inr (hsub b w))⟩) (fun _ e => e) (hn.2 l c hl h2)
    · cases h1
  · have h1 := R.lev x (.inl hx)
    refine ⟨by rw [List.length_take]; have := hB x hx; have := h1.1; omega, fun l c hl h2 => ?_⟩
    rw [List.getElem?_take] at h2
    split at h2
    · exact h1.2 l c hl h2
    · cases h2
theorem frz_list {A A' : AP_} {f : D → Option D} : ∀ {vs : List V} {ds ds' : List D}, (∀ (v : V) (d d' : D), d ∈ ds → f d = some d' → RV G A m H v d → RV G A' m0 H v d') → ds.mapM f = some ds' → RVs G A m H vs ds → RVs G A' m0 H vs ds'
  | _, _, _, _, e, .nil => by rw [mapM_nil e]; exact .nil
  | _, _, _, ih, e, .cons r t => by
    obtain ⟨y, zs, h1, h2, rfl⟩ := mapM_cons e
    exact .cons (ih _ _ _ List.mem_cons_self h1 r) (frz_list (fun v d d' hd => ih v d d' (List.mem_cons_of_mem _ hd)) h2 t)
theorem frz_gen {A A' : AP_} {n : Nat} (hdat : ∀ a o, H a = some o → ¬ A a → ¬ A' a) (hm : ∀ (l : Nat) (a : Addr), l < n → m[l]? = some a → m0[l]? = some a) :
    ∀ (k : Nat) (v : V) (d d' : D), (∀ l ∈ ids n μ k d, ∀ (a : Addr) (xs : List D), m[l]? = some a → μ[l]? = some (.lst xs) → ¬ A' a ∧ ∃ vs, H a = some (.lst vs) ∧ RVs G A m H vs xs) → frz n μ k d = some d' → RV G A m H v d → RV G A' m0 H v d'
  | 0, _, _, _, _, h, _ => by cases h
  | k + 1, v, d, d', hcell, h, r => by
    have ih := frz_gen hdat hm k
    cases r with
    | @lst a vs ds rr nn t =>
      obtain ⟨ys, h1, rfl⟩ := map_some h
      have hc : ∀ x ∈ ds, ∀ l ∈ ids n μ k x, l ∈ ids n μ (k + 1) (.lst ds) := fun x hx l hl => List.mem_flatMap.mpr ⟨x, hx, hl⟩
      refine .lst rr ?_ (frz_list (fun v d d' hd => ih v d d' fun l hl => hcell l (hc d hd l hl)) h1 t)
      rcases rr with rr | ⟨o, rr⟩
      · exact hdat _ _ rr nn
      · exact hdat _ _ rr nn
    | @tup a vs ds rr nn t =>
      obtain ⟨ys, h1, rfl⟩ := map_some h
      have hc : ∀ x ∈ ds, ∀ l ∈ ids n μ k x, l ∈ ids n μ (k + 1) (.tup ds) := fun x hx l hl => List.mem_flatMap.mpr ⟨x, hx, hl⟩
      exact .tup rr (hdat _ _ rr nn) (frz_list (fun v d d' hd => ih v d d' fun l hl => hcell l (hc d hd l hl)) h1 t)
    | @cell l a e =>
      have h : (if l < n then some (D.cell l) else match μ[l]? with | some (.lst xs) => (xs.mapM (frz n μ k)).map .lst | _ => none) = some d' := h
      split at h
      · rename_i hl; cases h; exact .cell (hm l a hl e)
      · rename_i hl
        split at h
        · rename_i xs hx
          obtain ⟨ys, h1, rfl⟩ := map_some h
          have ei : ids n μ (k + 1) (.cell l) = l :: xs.flatMap (ids n μ k) := by
            show (if l < n then [] else match μ[l]? with | some (.lst xs) => l :: xs.flatMap (ids n μ k) | _ => []) = _
            rw [if_neg hl, hx]
          obtain ⟨na, vs, h2, t⟩ := hcell l (by rw [ei]; exact List.mem_cons_self) a xs e hx
          exact .lst (.inl h2) na (frz_list (fun v d d' hd => ih v d d' fun l' hl' => hcell l' (by rw [ei]; exact List.mem_cons_of_mem _ (List.mem_flatMap.mpr ⟨d, hd, hl'⟩))) h1 t)
        · cases h
    | scr hh =>
      cases h
      rcases hh with ⟨rr | ⟨o, rr⟩, nn⟩ | hh
      · exact .scr (.inl ⟨.inl rr, hdat _ _ rr nn⟩)
      · exact .scr (.inl ⟨.inr ⟨o, rr⟩, hdat _ _ rr nn⟩)
      · exact .scr (.inr hh)
    | non => cases h; exact .non
    | bl b => cases h; exact .bl b
    | int i => cases h; exact .int i
    | str s => cases h; exact .str s
    | ty x => cases h; exact .ty x
    | fn g => cases h; exact .fn g
/-- the cells of the first j levels -/
def idsT (n : Nat) (μ : Sto) : Nat → Nat → D → List Nat
  | 0, _, _ => []
  | _ + 1, 0, _ => []
  | k + 1, j + 1, .tup xs => xs.flatMap (idsT n μ k (j + 1))
  | k + 1, j + 1, .cell l => if l < n then [] else match μ[l]? with | some (.lst xs) => l :: xs.flatMap (idsT n μ k j) | _ => []
  | _ + 1, _ + 1, _ => []
theorem flatMap_sub {α β : Type} {f g : α → List β} : ∀ {xs : List α}, (∀ x ∈ xs, (f x).Sublist (g x)) → (xs.flatMap f).Sublist (xs.flatMap g)
  | [], _ => List.Sublist.refl _
  | x :: xs, h => by
    rw [List.flatMap_cons, List.flatMap_cons]
    exact (h x List.mem_cons_self).append (flatMap_sub fun y hy => h y (List.mem_cons_of_mem _ hy))
theorem idsT_sub {n : Nat} {μ : Sto} : ∀ (k j : Nat) (d : D), (idsT n μ k j d).Sublist (ids n μ k d)
  | 0, _, _ => List.nil_sublist _
  | _ + 1, 0, _ => List.nil_sublist _
  | k + 1, j + 1, d => by
    cases d with
    | tup xs => exact flatMap_sub fun x _ => idsT_sub k (j + 1) x
    | cell l =>
      show (if l < n then [] else match μ[l]? with | some (.lst xs) => l :: xs.flatMap (idsT n μ k j) | _ => []).Sublist (if l < n then [] else match μ[l]? with | some (.lst xs) => l :: xs.flatMap (ids n μ k) | _ => [])
      split
      · exact List.Sublist.refl _
      · split
        · exact (flatMap_sub fun x _ => idsT_sub k j x).cons_cons _
        · exact List.Sublist.refl _
    | _ => exact List.nil_sublist _
theorem ids_at {n : Nat} {μ : Sto} : ∀ (k : Nat) (d : D), ∀ l ∈ ids n μ k d, n ≤ l ∧ ∃ xs, μ[l]? = some (.lst xs)
  | 0, _, l, h => by cases h
  | k + 1, d, l, h => by
    cases d with
    | lst xs => obtain ⟨x, _, h⟩ := List.mem_flatMap.mp h; exact ids_at k x l h
    | tup xs => obtain ⟨x, _, h⟩ := List.mem_flatMap.mp h; exact ids_at k x l h
    | cell l' =>
      have h : l ∈ (if l' < n then [] else match μ[l']? with | some (.lst xs) => l' :: xs.flatMap (ids n μ k) | _ => []) := h
      split at h
      · cases h
      · rename_i hl
        split at h
        · rename_i xs hx
          rcases List.mem_cons.mp h with rfl | h
          · exact ⟨Nat.le_of_not_lt hl, xs, hx⟩
          · obtain ⟨x, _, h⟩ := List.mem_flatMap.mp h; exact ids_at k x l h
        · cases h
    | _ => cases h
theorem min_all {f : D → Nat} {c : Nat} : ∀ {xs : List D} {j : Nat}, j ≤ (xs.map f).foldr min c → ∀ x ∈ xs, j ≤ f x
  | [], _, _, _, h => by cases h
  | y :: ys, j, h, x, hx => by
    rw [List.map_cons, List.foldr_cons] at h
    rcases List.mem_cons.mp hx with rfl | hx
    · omega
    · exact min_all (f := f) (c := c) (xs := ys) (by omega) x hx
/-- what is handed out is owned -/
theorem frz_own {A A' : AP_} {n : Nat} {Lall : List Addr} {ad : Nat → Addr} (hdat : ∀ a o, H a = some o → ¬ A a → ¬ A' a) (hm : ∀ (l : Nat) (a : Addr), l < n → m[l]? = some a → m0[l]? = some a)
    (had : ∀ (l : Nat) (a : Addr), m[l]? = some a → ad l = a) (hcell : ∀ (l : Nat) (a : Addr) (xs : List D), n ≤ l → m[l]? = some a → μ[l]? = some (.lst xs) → (A' a → a ∈ Lall) ∧ ∃ vs, H a = some (.lst vs) ∧ RVs G A m H vs xs) :
    ∀ (k j : Nat) (v : V) (d d' : D), j ≤ dep n μ k d → (ids n μ k d).Nodup → (∀ l ∈ ids n μ k d, ad l ∈ Lall → l ∈ idsT n μ k j d) → frz n μ k d = some d' → RV G A m H v d → OwnV G A' m0 H j ((idsT n μ k j d).map ad) v d'
  | 0, _, _, _, _, _, _, _, h, _ => by cases h
  | k + 1, 0, v, d, d', _, nd, hL, h, r => .z (frz_gen hdat hm (k + 1) v d d' (fun l hl a xs e1 e2 => by
      obtain ⟨h1, h2⟩ := hcell l a xs (ids_at _ _ l hl).1 e1 e2
      exact ⟨fun z => absurd (hL l hl (by rw [had l a e1]; exact h1 z)) (fun w => List.not_mem_nil w), h2⟩) h r)
  | k + 1, j + 1, v, d, d', hd, nd, hL, h, r => by
    have list : ∀ (i : Nat) (ds ds' : List D) (vs : List V), (∀ x ∈ ds, i ≤ dep n μ k x) → (ds.flatMap (ids n μ k)).Nodup → (∀ l ∈ ds.flatMap (ids n μ k), ad l ∈ Lall → l ∈ ds.flatMap (idsT n μ k i)) → ds.mapM (frz n μ k) = some ds' → RVs G A m H vs ds → OwnVs G A' m0 H i ((ds.flatMap (idsT n μ k i)).map ad) vs ds' := by
      intro i ds
      induction ds with
      | nil =>
        intro ds' vs _ _ _ e t
        rw [mapM_nil e]; cases t; exact .nil
      | cons x ds ihl =>
        intro ds' vs h1 h2 h3 e t
        obtain ⟨y, zs, e1, e2, rfl⟩ := mapM_cons e
        rw [List.flatMap_cons] at h2
        have nd2 := List.nodup_append.mp h2
        cases t with
        | cons r1 t1 =>
          rw [List.flatMap_cons, List.map_append]
          refine .cons (frz_own hdat hm had hcell k i _ x y (h1 x List.mem_cons_self) nd2.1 (fun l hl ha => ?_) e1 r1) (ihl zs _ (fun z hz => h1 z (List.mem_cons_of_mem _ hz)) nd2.2.1 (fun l hl ha => ?_) e2 t1)
          · have := h3 l (by rw [List.flatMap_cons]; exact List.mem_append_left _ hl) ha
            rw [List.flatMap_cons] at this
            rcases List.mem_append.mp this with z | z
            · exact z
            · exact absurd rfl (nd2.2.2 l hl l ((flatMap_sub fun x _ => idsT_sub k i x).subset z))
          · have := h3 l (by rw [List.flatMap_cons]; exact List.mem_append_right _ hl) ha
            rw [List.flatMap_cons] at this
            rcases List.mem_append.mp this with z | z
            · exact absurd rfl (nd2.2.2 l ((idsT_sub k i x).subset z) l hl)
            · exact z
    cases r with
    | lst rr nn t => exact absurd hd (by show ¬ j + 1 ≤ 0; omega)
    | @tup a vs ds rr nn t =>
      obtain ⟨ys, h1, rfl⟩ := map_some h
      exact .tup rr (hdat _ _ rr nn) (list (j + 1) ds ys vs (min_all hd) nd hL h1 t)
    | @cell l a e =>
      have h : (if l < n then some (D.cell l) else match μ[l]? with | some (.lst xs) => (xs.mapM (frz n μ k)).map .lst | _ => none) = some d' := h
      have hd : j + 1 ≤ (if l < n then 9 else match μ[l]? with | some (.lst xs) => (xs.map (dep n μ k)).foldr min 8 + 1 | _ => 0) := hd
      have nd : (if l < n then [] else match μ[l]? with | some (.lst xs) => l :: xs.flatMap (ids n μ k) | _ => []).Nodup := nd
      have hL : ∀ l' ∈ (if l < n then [] else match μ[l]? with | some (.lst xs) => l :: xs.flatMap (ids n μ k) | _ => []), ad l' ∈ Lall → l' ∈ (if l < n then [] else match μ[l]? with | some (.lst xs) => l :: xs.flatMap (idsT n μ k j) | _ => []) := hL
      show OwnV G A' m0 H (j + 1) ((if l < n then [] else match μ[l]? with | some (.lst xs) => l :: xs.flatMap (idsT n μ k j) | _ => []).map ad) _ d'
      by_cases hl : l < n
      · rw [if_pos hl] at h ⊢
        cases h
        exact .flat rfl (.cell (hm l a hl e))
      · rw [if_neg hl] at h hd nd ⊢
        simp only [if_neg hl] at hL
        cases hx : μ[l]? with
        | none => rw [hx] at h; cases h
        | some c =>
          cases c with
          | lst xs =>
            rw [hx] at h hd nd
            simp only [hx] at hL
            obtain ⟨ys, h1, rfl⟩ := map_some h
            obtain ⟨_, vs, h2, t⟩ := hcell l a xs (Nat.le_of_not_lt hl) e hx
            have nd2 := List.nodup_cons.mp nd
            show OwnV G A' m0 H (j + 1) (ad l :: (xs.flatMap (idsT n μ k j)).map ad) _ _
            rw [had l a e]
            refine .lst h2 (list j xs ys vs (min_all (c := 8) (by have : j + 1 ≤ (xs.map (dep n μ k)).foldr min 8 + 1 := hd; omega)) nd2.2 (fun l' hl' ha => ?_) h1 t)
            rcases List.mem_cons.mp (hL l' (List.mem_cons_of_mem _ hl') ha) with z | z
            · exact absurd (z ▸ hl') nd2.1
            · exact z
          | dct kvs => rw [hx] at h; cases h
          | ins c fs => rw [hx] at h; cases h
    | scr hh => exact absurd hd (by show ¬ j + 1 ≤ 0; omega)
    | non => cases h; exact .flat rfl .non
    | bl b => cases h; exact .flat rfl (.bl b)
    | int i => cases h; exact .flat rfl (.int i)
    | str s => cases h; exact .flat rfl (.str s)
    | ty x => cases h; exact .flat rfl (.ty x)
    | fn g => cases h; exact .flat rfl (.fn g)
mutual
theorem OwnV.impB {A A' : AP_} {n : Nat} (hm : ∀ (l : Nat) (a : Addr), l < n → m[l]? = some a → m'[l]? = some a) (hk : ∀ a o, H a = some o → ¬ A a → ¬ A' a) : ∀ {f : Nat} {L : List Addr} {v : V} {d : D}, OwnV G A m H f L v d → VM.below n d → OwnV G A' m' H f L v d
  | _, _, _, _, .z r, b => .z (r.impB hm (fun a o e q => ⟨e, hk a o e q⟩) b)
  | _, _, _, _, .flat e r, b => .flat e (r.impB hm (fun a o e q => ⟨e, hk a o e q⟩) b)
  | _, _, _, _, .lst e t, b => by unfold VM.below at b; exact .lst e (OwnVs.impB hm hk t b)
  | _, _, _, _, .tup e q t, b => by unfold VM.below at b; exact .tup e (hk _ _ e q) (OwnVs.impB hm hk t b)
theorem OwnVs.impB {A A' : AP_} {n : Nat} (hm : ∀ (l : Nat) (a : Addr), l < n → m[l]? = some a → m'[l]? = some a) (hk : ∀ a o, H a = some o → ¬ A a → ¬ A' a) : ∀ {f : Nat} {L : List Addr} {vs : List V} {ds : List D}, OwnVs G A m H f L vs ds → VM.belowL n ds → OwnVs G A' m' H f L vs ds
  | _, _, _, _, .nil, _ => .nil
  | _, _, _, _, .cons r t, b => by unfold VM.belowL at b; exact .cons (OwnV.impB hm hk r b.1) (OwnVs.impB hm hk t b.2)
end
theorem mapM_self {f : D → Option D} : ∀ {xs : List D}, (∀ x ∈ xs, f x = some x) → xs.mapM f = some xs
  | [], _ => by simp
  | x :: xs, h => by rw [List.mapM_cons, h x List.mem_cons_self, mapM_self fun y hy => h y (List.mem_cons_of_mem _ hy)]; rfl
theorem frz_noRef {n : Nat} {μ : Sto} : ∀ (k : Nat) (d : D), noRef k d = true → frz n μ k d = some d
  | 0, _, h => by cases h
  | k + 1, d, h => by
    cases d with
    | lst xs =>
      have h' : ∀ x ∈ xs, noRef k x = true := by simpa [noRef] using h
      show (xs.mapM (frz n μ k)).map D.lst = _
      rw [mapM_self fun x hx => frz_noRef k x (h' x hx)]; rfl
    | tup xs =>
      have h' : ∀ x ∈ xs, noRef k x = true := by simpa [noRef] using h
      show (xs.mapM (frz n μ k)).map D.tup = _
      rw [mapM_self fun x hx => frz_noRef k x (h' x hx)]; rfl
    | cell l => cases h
    | _ => rfl
end
section
variable {G : Gb} {S : AP_} {B : Nat → Prop} {m m' : List Addr} {μ μ' : Sto} {H H' : Hp} {E : XK} {Q : VK}
theorem Evo.cut (e : Evo m H m' H') : m'.take m.length = m := by
  obtain ⟨x, rfl⟩ := e.ext; simp
theorem Evo.back (e : Evo m H m' H') : Evo m H m H' := ⟨⟨[], by simp⟩, fun a o h n => ⟨(e.keep a o h n).1, n⟩, e.dom⟩
theorem Evo.newCell (e : Evo m H m' H') (nd : m'.Nodup) {l : Nat} {a : Addr} (hl : m.length ≤ l) (h : m'[l]? = some a) : H a = none ∧ a ∉ m ∧ a ∈ m' := by
  have ha : a ∈ m' := List.mem_of_getElem? h
  have hn : a ∉ m := by
    intro z
    obtain ⟨k, hk, e2⟩ := List.getElem_of_mem z
    have h2 := e.at (show m[k]? = some a by rw [List.getElem?_eq_getElem hk, e2])
    have := nodup_at nd h2 h
    omega
  refine ⟨?_, hn, ha⟩
  cases q : H a with
  | none => rfl
  | some o => exact absurd ha (e.keep a o q hn).2
/-- what is handed out, and that it is new -/
theorem fin_ok {n : Nat} {v : V} {d : D} {f : Nat} (hn : n = m.length) (e : Evo m H m' H') (R : Rep G S (fun x => B x ∨ x = n) m' μ' H') (r : RV G (av S m') m' H' v d) (nw : NWP f G S H m' μ' H' v d) {x : D × Nat} (h : frzTop n d f μ' = some x) (RC : Rep G S B m (μ'.take n) H') :
    RV G (av S m) m H' v x.1 ∧ NWP x.2 G S H m (μ'.take n) H' v x.1 := by
  have hmem : ∀ a, a ∈ m → a ∈ m' := fun a z => by obtain ⟨y, rfl⟩ := e.ext; exact List.mem_append_left _ z
  have hm : ∀ (l : Nat) (a : Addr), l < n → m'[l]? = some a → m[l]? = some a := fun l a hl h => by
    obtain ⟨y, rfl⟩ := e.ext
    rw [List.getElem?_append_left (by omega)] at h; exact h
  have hdat : ∀ a o, H' a = some o → ¬ av S m' a → ¬ av S m a := fun a o _ z w => z (w.elim .inl fun w => .inr (hmem a w))
  have ncell : ∀ (l : Nat) (a : Addr), n ≤ l → m'[l]? = some a → ¬ av S m a := fun l a hl h z => by
    obtain ⟨_, h2, h3⟩ := e.newCell R.nd (by omega) h
    exact z.elim (fun z => (R.trk a z).2 h3) h2
  have rf : ∀ (k : Nat) (d' : D), frz n μ' k d = some d' → RV G (av S m) m H' v d' := fun k d' hf => frz_gen hdat hm k v d d' (fun l hl a xs h1 h2 => ⟨ncell l a (ids_at _ _ l hl).1 h1, R.at_ l a _ h1 h2⟩) hf r
  -- old cells keep away from what keeps to the new ones or is none of ours
  have old : ∀ A' : AP_, (∀ a, ¬ av S m' a → ¬ A' a) → ∀ (l : Nat) (b : Addr) (c : C), m[l]? = some b → (μ'.take n)[l]? = some c → CR G A' m H' b c := fun A' hA l b c hb hc => by
    have hl : l < n := by rw [hn]; exact (List.getElem?_eq_some_iff.mp hb).1
    rw [List.getElem?_take, if_pos hl] at hc
    exact (R.at_ l b c (e.at hb) hc).impB (n := n) hm (fun y o e z => ⟨e, hA y z⟩) (fun _ e => e) ((R.lev n (.inr rfl)).2 l c hl hc)
  -- the cells handed out
  have cells : ∀ d', frz n μ' 10 d = some d' → NWP (ownF n d μ') G S H m (μ'.take n) H' v d' := by
    intro d' hf
    unfold ownF
    by_cases hid : (ids n μ' 10 d).Nodup
    · rw [if_pos hid]
      have had : ∀ (l : Nat) (a : Addr), m'[l]? = some a → m'.getD l 0 = a := fun l a h => by rw [List.getD_eq_getElem?_getD, h]; rfl
      have inT : ∀ l ∈ ids n μ' 10 d, ∃ a, m'[l]? = some a ∧ n ≤ l := fun l hl => by
        obtain ⟨h1, xs, h2⟩ := ids_at _ _ l hl
        have : l < m'.length := by rw [R.len]; exact (List.getElem?_eq_some_iff.mp h2).1
        exact ⟨m'[l], List.getElem?_eq_getElem this, h1⟩
      have mem : ∀ a ∈ (idsT n μ' 10 (dep n μ' 10 d) d).map (fun l => m'.getD l 0), ∃ l, l ∈ idsT n μ' 10 (dep n μ' 10 d) d ∧ m'[l]? = some a ∧ n ≤ l := fun a ha => by
        obtain ⟨l, hl, rfl⟩ := List.mem_map.mp ha
        obtain ⟨a, h1, h2⟩ := inT l ((idsT_sub _ _ _).subset hl)
        exact ⟨l, hl, by rw [had l a h1]; exact h1, h2⟩
      have inj : ∀ l1 ∈ ids n μ' 10 d, ∀ l2 ∈ ids n μ' 10 d, m'.getD l1 0 = m'.getD l2 0 → l1 = l2 := fun l1 h1 l2 h2 e => by
        obtain ⟨a1, g1, _⟩ := inT l1 h1
        obtain ⟨a2, g2, _⟩ := inT l2 h2
        rw [had l1 a1 g1, had l2 a2 g2] at e
        subst e
        exact nodup_at R.nd g1 g2
      have hA : ∀ a, ¬ av S m' a → ¬ avL S m ((idsT n μ' 10 (dep n μ' 10 d) d).map fun l => m'.getD l 0) a := fun a q z => q (z.elim (fun z => z.elim .inl fun z => .inr (hmem a z)) fun z => .inr (let ⟨l, _, h1, _⟩ := mem a z; List.mem_of_getElem? h1))
      refine ⟨_, ?_, fun a ha => ?_, frz_own (Lall := (idsT n μ' 10 (dep n μ' 10 d) d).map fun l => m'.getD l 0) (fun a o _ q => hA a q) hm had (fun l a xs hl h1 h2 => ⟨fun z => z.elim (fun z => absurd z (ncell l a hl h1)) id, R.at_ l a _ h1 h2⟩) 10 (dep n μ' 10 d) v d d' (Nat.le_refl _) hid (fun l hl ha => ?_) hf r, old _ hA⟩
      · have nd2 := hid.sublist (idsT_sub (n := n) (μ := μ') 10 (dep n μ' 10 d) d)
        exact nodup_map (fun x hx y hy e => inj x ((idsT_sub _ _ _).subset hx) y ((idsT_sub _ _ _).subset hy) e) nd2
      · obtain ⟨l, _, h1, h2⟩ := mem a ha
        exact ⟨(e.newCell R.nd (by omega) h1).1, ncell l a h2 h1⟩
      · obtain ⟨l2, hl2, e2⟩ := List.mem_map.mp ha
        rw [inj l hl l2 ((idsT_sub _ _ _).subset hl2) e2.symm]; exact hl2
    · rw [if_neg hid]
      exact .zero RC (rf 10 d' hf)
  have same : noRef 9 d = true → NWP f G S H m (μ'.take n) H' v d := fun hr => by
    obtain ⟨L, nd, hL, own, cr⟩ := nw
    have hA : ∀ a, ¬ avL S m' L a → ¬ avL S m L a := fun a q z => q (z.elim (fun z => .inl (z.elim .inl fun z => .inr (hmem a z))) .inr)
    refine ⟨L, nd, fun a ha => ⟨(hL a ha).1, fun z => (hL a ha).2 (z.elim .inl fun z => .inr (hmem a z))⟩, own.impB (n := 0) (fun l a hl => absurd hl (Nat.not_lt_zero l)) (fun a o _ q => hA a q) (below_noRef 9 d hr), fun l b c hb hc => ?_⟩
    have hl : l < n := by rw [hn]; exact (List.getElem?_eq_some_iff.mp hb).1
    rw [List.getElem?_take, if_pos hl] at hc
    exact (cr l b c (e.at hb) hc).impB (n := n) hm (fun y o e z => ⟨e, hA y z⟩) (fun _ e => e) ((R.lev n (.inr rfl)).2 l c hl hc)
  have one : ∀ xs ys, d = .lst xs → 1 ≤ f → xs.mapM (frz n μ' 8) = some ys → NWP 1 G S H m (μ'.take n) H' v (.lst ys) := by
    intro xs ys hd hf hy
    obtain ⟨L, ⟨nd, hL⟩, own, cr⟩ := nw.le hf
    subst hd
    have hA : ∀ a, ¬ avL S m' L a → ¬ avL S m L a := fun a q z => q (z.elim (fun z => .inl (z.elim .inl fun z => .inr (hmem a z))) .inr)
    have nL : ∀ (l : Nat) (a : Addr), m'[l]? = some a → a ∉ L := fun l a h1 z => (hL a z).2 (.inr (List.mem_of_getElem? h1))
    have cr2 : ∀ (l : Nat) (b : Addr) (c : C), m[l]? = some b → (μ'.take n)[l]? = some c → CR G (avL S m L) m H' b c := fun l b c hb hc => by
      have hl : l < n := by rw [hn]; exact (List.getElem?_eq_some_iff.mp hb).1
      rw [List.getElem?_take, if_pos hl] at hc
      exact (cr l b c (e.at hb) hc).impB (n := n) hm (fun y o e z => ⟨e, hA y z⟩) (fun _ e => e) ((R.lev n (.inr rfl)).2 l c hl hc)
    cases own with
    | flat z _ => cases z
    | @lst _ a vs _ L h1 q =>
      refine ⟨a :: L, nd, fun x hx => ⟨(hL x hx).1, fun z => (hL x hx).2 (z.elim .inl fun z => .inr (hmem x z))⟩, .lst h1 ?_, cr2⟩
      have hq := q.length0
      subst hq
      refine .zero (frz_list (fun v d d' hd hf r => frz_gen (fun x o _ q => hA x q) hm 8 v d d' (fun l hl b zs e1 e2 => ⟨fun z => z.elim (ncell l b (ids_at _ _ l hl).1 e1) (nL l b e1), ?_⟩) hf r) hy (q.rv (A' := avL S m' [a]) (fun x q => q) fun x hx => by cases hx))
      exact cr l b _ e1 e2
  cases d with
  | cell l =>
    cases r with
    | @cell _ a ha =>
      have h : (if l < n then some (D.cell l, 0) else (frz n μ' 10 (.cell l)).map fun d' => (d', ownF n (.cell l) μ')) = some x := h
      split at h
      · rename_i hl
        cases h
        have r2 : RV G (av S m) m H' (.ref a) (.cell l) := .cell (hm l a hl ha)
        exact ⟨r2, .zero RC r2⟩
      · obtain ⟨d', h1, rfl⟩ := map_some h
        exact ⟨rf 10 d' h1, cells d' h1⟩
  | tup xs =>
    obtain ⟨d', h1, rfl⟩ := map_some (f := fun d' => (d', if f = 0 then ownF n (.tup xs) μ' else if noRef 9 (.tup xs) then f else 0)) (o := frz n μ' 10 (.tup xs)) h
    refine ⟨rf 10 d' h1, ?_⟩
    dsimp only
    split
    · exact cells d' h1
    · split
      · rename_i hr
        have e2 := frz_noRef (n := n) (μ := μ') 10 (.tup xs) (noRef_up 9 _ hr)
        rw [e2] at h1; cases h1
        exact same hr
      · exact .zero RC (rf 10 d' h1)
  | lst xs =>
    obtain ⟨d', h1, rfl⟩ := map_some (f := fun d' => (d', if f ≤ 1 then f else if noRef 9 (.lst xs) then f else 1)) (o := frz n μ' 9 (.lst xs)) h
    refine ⟨rf 9 d' h1, ?_⟩
    obtain ⟨ys, h2, rfl⟩ := map_some (f := D.lst) (o := xs.mapM (frz n μ' 8)) h1
    dsimp only
    split
    · rename_i hf
      match f, hf with
      | 0, _ => exact .zero RC (rf 9 _ h1)
      | 1, _ => exact one xs ys rfl (Nat.le_refl _) h2
    · rename_i hf
      split
      · rename_i hr
        have e2 := frz_noRef (n := n) (μ := μ') 9 (.lst xs) hr
        rw [e2] at h1; cases h1
        exact same hr
      · exact one xs ys rfl (by omega) h2
  | scr ns =>
    cases h
    cases r with
    | scr hh =>
      have r2 : RV G (av S m) m H' _ (.scr ns) := .scr (hh.imp (fun z => ⟨z.1, by rcases z.1 with q | ⟨o, q⟩ <;> exact hdat _ _ q z.2⟩) id)
      exact ⟨r2, .zero RC r2⟩
  | non => cases h; cases r; exact ⟨.non, .zero RC .non⟩
  | bl b => cases h; cases r; exact ⟨.bl b, .zero RC (.bl b)⟩
  | int i => cases h; cases r; exact ⟨.int i, .zero RC (.int i)⟩
  | str s => cases h; cases r; exact ⟨.str s, .zero RC (.str s)⟩
  | ty x => cases h; cases r; exact ⟨.ty x, .zero RC (.ty x)⟩
  | fn g => cases h; cases r with | fn q => exact ⟨.fn q, .zero RC (.fn q)⟩
abbrev WX0 (E : XK) : L2.WX := fun c d _ H => E c d H
theorem fin_cut {n : Nat} {v : V} {d : D} {f : Nat} (hn : n = m.length) (hB : ∀ x, B x → x ≤ n) (h : PostE G S B (WX0 E) m H [] Q (fin false n d f μ')) (e : Evo m H m' H') (R : Rep G S (fun x => B x ∨ x = n) m' μ' H') (r : RV G (av S m') m' H' v d) (nw : NWP f G S H m' μ' H' v d) : Q v H' := by
  have h : PostE G S B (WX0 E) m H [] Q (okR (frzTop n d f μ') (μ'.take n)) := h
  cases q : frzTop n d f μ' with
  | none => rw [q] at h; exact False.elim h
  | some x =>
    rw [q] at h
    have C := R.cut hB
    rw [hn, e.cut] at C
    rw [← hn] at C
    obtain ⟨h1, h2⟩ := fin_ok hn e R r nw q C
    exact h v H' m e.back C h1 h2
theorem post_cut {n : Nat} {r : RS} (hn : n = m.length) (hB : ∀ x, B x → x ≤ n) (h : PostE G S B (WX0 E) m H [] Q (exitF false n r)) : PostS G S (fun x => B x ∨ x = n) (WX0 E) m H { nx := fun _ H' => Q .non H', rt := Q } r := by
  cases r with
  | nx ρ' μ' => exact fun σ' H' m' e R _ => fin_cut hn hB h e R .non (.zero R .non)
  | ret d f μ' => exact fun v H' m' e R r nw => fin_cut hn hB h e R r nw
  | brk ρ' μ' => exact False.elim h
  | ct ρ' μ' => exact False.elim h
  | err x ρ' μ' =>
    intro σ' c dd H' m' e R _ hx
    have C := R.cut hB
    rw [hn, e.cut] at C
    rw [← hn] at C
    exact h c dd H' m e.back C hx
  | bad => exact h
theorem post_keep {n : Nat} {r : RS} (h : PostE G S B (WX0 E) m H [] Q (exitF true n r)) : PostS G S B (WX0 E) m H { nx := fun _ H' => Q .non H', rt := Q } r := by
  cases r with
  | nx ρ' μ' => exact fun σ' H' m' e R _ => h .non H' m' e R .non (.zero R .non)
  | ret d f μ' => exact fun v H' m' e R r nw => h v H' m' e R r nw
  | brk ρ' μ' => exact False.elim h
  | ct ρ' μ' => exact False.elim h
  | err x ρ' μ' => exact fun σ' c dd H' m' e R _ hx => h c dd H' m' e R hx
  | bad => exact h
end
end VM

set_option Elab.async false
set_option maxRecDepth 100000
set_option autoImplicit false
set_option linter.unusedVariables false
/-! every def of a table keeps its promise -/
namespace VM
open PySem PySem.Spec PyProof.Rows L2
/-- a def of the text: its name, its text, its names (parameters first), whether cells outlive it, where new lists become cells -/
structure DI where
  x : Str
  st : Stmt
  N : List Str
  ps : List Str
  keep : Bool
  th : List (Nat × Nat × Nat)
  td : List ((Nat × Nat × Nat) × Nat)
  ld : List ((Nat × Nat × Nat) × Nat)
  rz : List Str
  tr : Bool
def DI.trn (d : DI) (defs : List Str) (cs : Bool) : Tr := ⟨d.th, d.td, d.ld, d.rz, d.tr, d.N, defs, cs⟩
def DI.fn (defs : List Str) (d : DI) : Fn := ⟨d.ps.length, d.N.length, d.keep, trSs (d.trn defs false) (defScope d.st).names (defBody d.st)⟩
def find (L : List DI) (f : Str) : Option DI := L.find? fun d => d.x == f
noncomputable def wlOf (f : Nat → RS) : RS := open Classical in if h : ∃ n, f n ≠ .bad then f h.choose else .bad
theorem wlOf_ok (f : Nat → RS) (h : wlOf f ≠ .bad) : ∃ n, f n = wlOf f := by
  classical
  unfold wlOf at h ⊢
  split
  · exact ⟨_, rfl⟩
  · rename_i q; rw [dif_neg q] at h; exact absurd rfl h
noncomputable def pgOf (L : List DI) (glob : Str → Option D) : Pg := ⟨fun f => (find L f).map (DI.fn (L.map (·.x))), glob, wlOf⟩
structure TxtOk (K : PySem.W.Frag) (mg : Str → Option Value) (G : Gb) (L : List DI) (glob : Str → Option D) : Prop where
  eqK : K = G.K
  bi : ∀ x ∈ biNames ++ (["range", "zip", "enumerate", "str"] : List Str), mg x = none
  gl : ∀ x d, glob x = some d → ∃ v u, (mg x = some u ∨ (mg x = none ∧ bootBuiltins x = some u ∧ x ≠ "__name__")) ∧ RelV v u ∧ ∀ A m H, RV G A m H v d
  defs : ∀ d ∈ L, ∃ fa fd, mg d.x = some (.ref fa) ∧ Fun K d.x d.x d.st fa fd ∧ Binds K fd d.ps [] ∧ FnScope d.N d.ps (defScope d.st)
  fnc : ∀ x v fa, G.f x = some v → mg x = some (.ref fa) → v = .ref fa
  rz : ∀ d ∈ L, ∀ c, d.rz.contains c = true → ∃ C, ExcAt K mg G c C
  tr : ∀ d ∈ L, d.tr = true → ∀ (prog : Program) (w : World) (base : Heap), TryOk prog w K mg base G
/-- what stands in the base for the great divisions -/
structure BaseOk (base : Heap) : Prop where
  lim : base.NoLimit
  seer : base.NoSeer
theorem div_ok {prog : Program} {w : World} {K : PySem.W.Frag} {mg : Str → Option Value} {base : Heap} (hT : prog.given.tree = none) (hB : BaseOk base) {CX : CXT} {N ps : List Str} {qual : Str} {scope : Scope} {f : Addr} {cd : Value} {A : Around} {outer : List Env} {s0 : Shared} {H : Hp} {E : XK} {k : Nat}
    (sc : FnScope N ps scope) (hr : Room (k + 40) (A.deeper (envOfC qual scope s0.heap.objs.size f cd))) : DivOk (cxOf CX prog w K mg base N qual scope f cd A outer s0 H E) := fun s hf hk =>
  PySem.PylongRoom.of (hB.lim.keeps hk) (by
    have := hr.dp
    have e : Builtin.pylongFrames = 100 := rfl
    show (A.deeper _).depth + _ < _
    omega) (PySem.SeerAt.of (hB.seer.keeps hk) hT hf sc.gen sc.co rfl rfl)
section
variable {prog : Program} {w : World} {K : PySem.W.Frag} {mg : Str → Option Value} {base : Heap} {G : Gb} {L : List DI} {glob : Str → Option D}
theorem find_mem {f : Str} {d : DI} (h : find L f = some d) : d ∈ L ∧ d.x = f := ⟨List.mem_of_find?_eq_some h, by have := List.find?_some h; simpa using this⟩
theorem find_has {f : Str} (h : (L.map (·.x)).contains f = true) : ∃ d, find L f = some d := by
  cases q : find L f with
  | some d => exact ⟨d, rfl⟩
  | none =>
    have q := List.find?_eq_none.mp q
    have h : f ∈ L.map (·.x) := by simpa using h
    obtain ⟨d, hd, rfl⟩ := List.mem_map.mp h
    exact absurd (q d hd) (by simp)
theorem find_call {n : Nat} {f : Str} {b : Nat} {ds : List D} {μ : Sto} (h : (tb (pgOf L glob) n).call f b ds μ ≠ .bad) : ∃ d, find L f = some d := by
  cases n with
  | zero => exact absurd rfl h
  | succ n =>
    have h : (match (find L f).map (DI.fn (L.map (·.x))) with | some fn => runFn (tb (pgOf L glob) n) fn b ds μ | none => .bad) ≠ VM.R.bad := h
    cases q : find L f with
    | some d => exact ⟨d, rfl⟩
    | none => rw [q] at h; exact absurd rfl h
theorem call_len {n : Nat} {f : Str} {e : DI} (he : find L f = some e) {b : Nat} {ds : List D} {μ : Sto} (hne : (tb (pgOf L glob) n).call f b ds μ ≠ .bad) : ds.length = e.ps.length := by
  have hge : (pgOf L glob).fns f = some (DI.fn (L.map (·.x)) e) := by show (find L f).map _ = _; rw [he]; rfl
  cases n with
  | zero => exact absurd rfl hne
  | succ n =>
    have hne : (match (pgOf L glob).fns f with | some fn => runFn (tb (pgOf L glob) n) fn b ds μ | none => .bad) ≠ VM.R.bad := hne
    rw [hge] at hne
    have hne : runFn (tb (pgOf L glob) n) (DI.fn (L.map (·.x)) e) b ds μ ≠ VM.R.bad := hne
    unfold runFn at hne
    by_cases hz : ds.length = (DI.fn (L.map (·.x)) e).ps
    · exact hz
    · rw [if_neg hz] at hne; exact absurd rfl hne
theorem tb_glob (P : Pg) : ∀ n, (tb P n).glob = P.glob
  | 0 => rfl
  | _ + 1 => rfl
theorem tb_wh (P : Pg) : ∀ n, (tb P n).wh = P.wh
  | 0 => rfl
  | _ + 1 => rfl
theorem env_start {A : AP_} {m : List Addr} {H : Hp} {N : List Str} : ∀ {vs : List V} {ds : List D}, RVs G A m H vs ds → EnvR G A m H (start N vs) (ds.map some ++ List.replicate (N.length - vs.length) none) := fun {vs ds} t => by
  refine ⟨by simp [L2.start, t.length], fun i d h => ?_⟩
  by_cases hi : i < ds.length
  · rw [List.getElem?_append_left (by simpa using hi)] at h
    rw [List.getElem?_map] at h
    obtain ⟨y, hy, e⟩ := map_some (f := some) (o := ds[i]?) h
    cases e
    obtain ⟨v, h1, h2⟩ := t.get hy
    refine ⟨v, ?_, h2⟩
    show (vs.map some ++ List.replicate (N.length - vs.length) none)[i]? = _
    rw [List.getElem?_append_left (by rw [List.length_map, t.length]; exact hi), List.getElem?_map, h1]; rfl
  · rw [List.getElem?_append_right (by simpa using Nat.le_of_not_lt hi), List.getElem?_replicate] at h
    split at h <;> cases h
theorem fnOk (Tx : TxtOk K mg G L glob) (hT : prog.given.tree = none) (hBase : BaseOk base) : ∀ (n : Nat) (f : Str) (d : DI), find L f = some d →
    ∃ fa fd, mg f = some (.ref fa) ∧ PySem.W.keepIn K (.ref fa) = true ∧ Binds K fd d.ps [] ∧ FnOk prog w K mg base (L2N.CX prog w) (n + 40) fa fd d.ps (spF G d.ps.length ((tb (pgOf L glob) n).call f))
  | 0, f, d, h => by
    obtain ⟨hd, hx⟩ := find_mem h
    obtain ⟨fa, fd, h1, F, h2, _⟩ := Tx.defs d hd
    rw [hx] at h1
    exact ⟨fa, fd, h1, F.kp, h2, ⟨fun vs H Q E q => q.1, fun _ _ _ _ _ _ _ _ _ _ _ _ _ q => by
      obtain ⟨_, S, B, b, m, μ, ds, _, _, _, P⟩ := q
      exact False.elim P⟩⟩
  | n + 1, f, d, h => by
    obtain ⟨hd, hx⟩ := find_mem h
    obtain ⟨fa, fd, h1, F, h2, sc⟩ := Tx.defs d hd
    rw [hx] at h1
    refine ⟨fa, fd, h1, F.kp, h2, ?_⟩
    obtain ⟨oc, od, kV, doc, pm, an, cdv, ct, osl, rfl, lk, hcd⟩ := F.ex
    refine fn_of (k := n + 40) lk hcd sc (fun vs H Q E q => q.1) fun A outer s H vs Q E hr q => ?_
    obtain ⟨hl, S, B, b, m, μ, ds, hB, R, t, P⟩ := q
    have P : PostE G S B (WX0 E) m H [] Q (match (pgOf L glob).fns f with | some fn => runFn (tb (pgOf L glob) n) fn b ds μ | none => .bad) := P
    have hf : (pgOf L glob).fns f = some (DI.fn (L.map (·.x)) d) := by show (find L f).map _ = _; rw [h]; rfl
    rw [hf] at P
    have P : PostE G S B (WX0 E) m H [] Q (if ds.length = d.ps.length then exitF d.keep μ.length (runSs (tb (pgOf L glob) n) (if d.keep then b else μ.length) (trSs (d.trn (L.map (·.x)) false) (defScope d.st).names (defBody d.st)) (ds.map some ++ List.replicate (d.N.length - d.ps.length) none) μ) else .bad) := P
    obtain ⟨_, P⟩ := ifR P id
    have Gd : Good (cxOf (L2N.CX prog w) prog w K mg base d.N d.x (defScope d.st) fa cdv A outer s H E) G (d.trn (L.map (·.x)) false) (tb (pgOf L glob) n) := by
      refine ⟨rfl, Tx.eqK, sc.nd, rfl, ?_, div_ok hT hBase sc hr, hr.mono (by omega), fun c hc => Tx.rz d hd c hc, fun ht => Tx.tr d hd ht prog w base, sc.kind, Tx.bi, fun z => Bool.noConfusion z, fun x y hy => Tx.gl x y ?_, fun x v hx ⟨b, ds, μ, hne⟩ => ?_, fun g hg => ?_⟩
      · have := hr.un
        show (A.deeper _).units + 64 < cLine
        omega
      · rw [tb_glob] at hy; exact hy
      · obtain ⟨e, he⟩ := find_call hne
        obtain ⟨ga, gd, g1, g2, g3, g4⟩ := fnOk Tx hT hBase n x e he
        exact ⟨ga, gd, e.ps, n + 40, Tx.fnc x v ga hx g1, g2, g4, hr, g3, fun b ds μ hne => call_len he hne⟩
      · obtain ⟨e, he⟩ := find_has hg
        obtain ⟨ga, gd, g1, g2, g3, g4⟩ := fnOk Tx hT hBase n g e he
        refine ⟨ga, gd, e.ps, n + 40, g1, g2, g4, hr, g3, fun b ds μ hne => ?_⟩
        have hge : (pgOf L glob).fns g = some (DI.fn (L.map (·.x)) e) := by show (find L g).map _ = _; rw [he]; rfl
        cases n with
        | zero => exact absurd rfl hne
        | succ n =>
          have hne : (match (pgOf L glob).fns g with | some fn => runFn (tb (pgOf L glob) n) fn b ds μ | none => .bad) ≠ VM.R.bad := hne
          rw [hge] at hne
          have hne : runFn (tb (pgOf L glob) n) (DI.fn (L.map (·.x)) e) b ds μ ≠ VM.R.bad := hne
          unfold runFn at hne
          by_cases hz : ds.length = (DI.fn (L.map (·.x)) e).ps
          · exact hz
          · rw [if_neg hz] at hne; exact absurd rfl hne
    have Gs : GoodS (cxOf (L2N.CX prog w) prog w K mg base d.N d.x (defScope d.st) fa cdv A outer s H E) (tb (pgOf L glob) n) (WX0 E) :=
      ⟨fun _ => rfl, rfl, rfl, passes_of rfl, L2N.takes_of rfl rfl rfl rfl, fun g hg => by rw [tb_wh] at hg ⊢; exact wlOf_ok g hg⟩
    have body : ∀ b, PSs (cxOf (L2N.CX prog w) prog w K mg base d.N d.x (defScope d.st) fa cdv A outer s H E) (defBody d.st) (tSs G (tb (pgOf L glob) n) b (WX0 E) (trSs (d.trn (L.map (·.x)) false) (defScope d.st).names (defBody d.st))) := by
      intro b
      unfold trSs
      induction defBody d.st with
      | nil => exact ss_nil
      | cons x l ihl => exact ss_cons (s_any 60 Gd Gs x) ihl
    have VV : EnvR G (av S m) m H (start d.N vs) (ds.map some ++ List.replicate (d.N.length - d.ps.length) none) := by
      have := env_start (N := d.N) t
      rw [hl] at this; exact this
    cases hk : d.keep with
    | true =>
      rw [hk] at P
      rw [if_pos rfl] at P
      exact ⟨_, body b, S, B, m, μ, _, hB, R, VV, post_keep P⟩
    | false =>
      rw [hk] at P
      rw [if_neg Bool.false_ne_true] at P
      have hx : ∀ x, B x → x ≤ μ.length := fun x hx => (R.lev x hx).1
      exact ⟨_, body μ.length, S, _, m, μ, _, fun x hx2 => hx2.elim (hx x) (fun e => Nat.le_of_eq e), R.enter, VV, post_cut R.len.symm hx P⟩
end
end VM

set_option Elab.async false
set_option maxRecDepth 100000
set_option autoImplicit false
set_option linter.unusedVariables false
/-! the law's run, from its run on the machine -/
namespace VM
open PySem PySem.Spec PyProof.Rows L2
def lawFn (defs : List Str) (d : DI) : Fn := ⟨1, d.N.length, false, trSs (d.trn defs true) (defScope d.st).names (defBody d.st)⟩
section
variable {prog : Program} {w : World} {K : PySem.W.Frag} {mg mb : Str → Option Value} {base : Heap} {G : Gb} {L : List DI} {glob : Str → Option D}
/-- the body of the law, called by the caller of laws -/
theorem law_body (Tx : TxtOk K mg G L glob) (hT : prog.given.tree = none) (hB : BaseOk base) {k : Nat} {d : DI} {x : Str} {fa a : Addr} {fd : FuncData} {s : Shared} {H : Hp} {ns : List Int} (hr : Room (k + 41) callerA) (hrz : ∀ c, d.rz.contains c = true → ∃ C, ExcAt K mg G c C) (htr : d.tr = true → TryOk prog w K mg base G) (F : Fun K d.x d.x d.st fa fd) (sc : FnScope d.N [x] (defScope d.st)) (hb : BindsTo s fd ⟨[.ref a], []⟩ [(x, .ref a)])
    (e0 : Env0 prog w K mg base callerA [] s H) (hS : SqL K H a (ns.map V.int)) {f : Nat} {μ : Sto} (run : runFn (tb (pgOf L glob) k) (lawFn (L.map (·.x)) d) 0 [.scr ns] [] = .ok (.bl true, f) μ) :
    codeAny (model prog w) callerA (.call (.ref fa) ⟨[.ref a], []⟩) (L2.CR (L2N.CX prog w) [] prog w H s (fun v _ => v = .bl true) fun _ _ _ => False) s := by
  obtain ⟨oc, od, kV, doc, pm, an, cdv, ct, osl, rfl, lk, hcd⟩ := F.ex
  have KX : K.In s.heap := e0.mod.kin.keeps fun b o e => (e0.bs b o e).1
  have lim : s.heap.NoLimit := e0.mod.nolimit.keeps fun b o e => (e0.bs b o e).1
  have hkind : ∀ y ∈ [x].zip [Value.ref a], (defScope d.st).names.lookup y.1 = some .local ∨ ((defScope d.st).names.lookup y.1 = some .cell ∧ ((cellsFrom (s.heap.objs.size + 1) (defScope d.st).names []).lookup y.1).isSome = true) := fun ⟨n, v⟩ hy => by
    rcases sc.par n (List.of_mem_zip hy).1 with q | q
    · exact .inl q
    · exact .inr ⟨q, PySem.W.cellsFrom_some _ _ _ (.inl q)⟩
  refine codeAny_call_function hr.depth (KX _ _ lk) rfl sc.co sc.gen rfl (PySem.W.codeRec_of KX hcd) (hb _ _ _ _ ?_)
  refine wpAny_newFunctionEnv_cells sc.kind hkind fun env he s1 z => ?_
  subst he
  refine ⟨lim.keeps z.toInCall.keep, codeAny_func ?_⟩
  have I : Inv (cxOf (L2N.CX prog w) prog w K mg base d.N d.x (defScope d.st) fa cdv callerA [] s H fun _ _ _ => False) [] (L2.start d.N [.ref a]) H s1 := inv_start (ps := [x]) (us := [.ref a]) sc hr.hd e0 rfl (.cons rfl .nil) z
  have hr2 := hr.deeper (envOfC d.x (defScope d.st) s.heap.objs.size fa cdv)
  have Gd : Good (cxOf (L2N.CX prog w) prog w K mg base d.N d.x (defScope d.st) fa cdv callerA [] s H fun _ _ _ => False) G (d.trn (L.map (·.x)) true) (tb (pgOf L glob) k) := by
    refine ⟨rfl, Tx.eqK, sc.nd, rfl, ?_, div_ok hT hB sc hr2, hr2.mono (by omega), hrz, htr, sc.kind, Tx.bi, fun _ => rfl, fun y e hy => Tx.gl y e ?_, fun x v hx ⟨b, ds, μ, hne⟩ => ?_, fun g hg => ?_⟩
    · have := hr2.un
      show (callerA.deeper _).units + 64 < cLine
      omega
    · rw [tb_glob] at hy; exact hy
    · obtain ⟨e, he⟩ := find_call hne
      obtain ⟨ga, gd, g1, g2, g3, g4⟩ := fnOk (prog := prog) (w := w) (base := base) Tx hT hB k x e he
      exact ⟨ga, gd, e.ps, k + 40, Tx.fnc x v ga hx g1, g2, g4, hr2, g3, fun b ds μ hne => call_len he hne⟩
    · obtain ⟨e, he⟩ := find_has hg
      obtain ⟨ga, gd, g1, g2, g3, g4⟩ := fnOk (prog := prog) (w := w) (base := base) Tx hT hB k g e he
      refine ⟨ga, gd, e.ps, k + 40, g1, g2, g4, hr2, g3, fun b ds μ hne => ?_⟩
      have hge : (pgOf L glob).fns g = some (DI.fn (L.map (·.x)) e) := by show (find L g).map _ = _; rw [he]; rfl
      cases k with
      | zero => exact absurd rfl hne
      | succ n =>
        have hne : (match (pgOf L glob).fns g with | some fn => runFn (tb (pgOf L glob) n) fn b ds μ | none => .bad) ≠ VM.R.bad := hne
        rw [hge] at hne
        have hne : runFn (tb (pgOf L glob) n) (DI.fn (L.map (·.x)) e) b ds μ ≠ VM.R.bad := hne
        unfold runFn at hne
        by_cases hz : ds.length = (DI.fn (L.map (·.x)) e).ps
        · exact hz
        · rw [if_neg hz] at hne; exact absurd rfl hne
  have Gs : GoodS (cxOf (L2N.CX prog w) prog w K mg base d.N d.x (defScope d.st) fa cdv callerA [] s H fun _ _ _ => False) (tb (pgOf L glob) k) (WX0 fun _ _ _ => False) :=
    ⟨fun _ => rfl, rfl, rfl, passes_of rfl, L2N.takes_of rfl rfl rfl rfl, fun g hg => by rw [tb_wh] at hg ⊢; exact wlOf_ok g hg⟩
  have body : PSs (cxOf (L2N.CX prog w) prog w K mg base d.N d.x (defScope d.st) fa cdv callerA [] s H fun _ _ _ => False) (defBody d.st) (tSs G (tb (pgOf L glob) k) 0 (WX0 fun _ _ _ => False) (trSs (d.trn (L.map (·.x)) true) (defScope d.st).names (defBody d.st))) := by
    unfold trSs
    induction defBody d.st with
    | nil => exact ss_nil
    | cons x l ihl => exact ss_cons (s_any 60 Gd Gs x) ihl
  have R0 : Rep G (fun _ => False) (fun _ => False) [] [] H := ⟨rfl, List.nodup_nil, fun l a c h => by simp at h, fun x z => z.elim, fun a z => z.elim⟩
  have t0 : RVs G (av (fun _ => False) []) [] H [.ref a] [.scr ns] := .cons (.scr (by
    rw [← Tx.eqK]
    rcases hS with h | h
    · exact .inl ⟨h, fun z => z.elim (fun z => z) (fun z => by cases z)⟩
    · exact .inr h)) .nil
  have VV := env_start (N := d.N) t0
  have P : PostE G (fun _ => False) (fun _ => False) (WX0 fun _ _ _ => False) [] H [] (fun v _ => v = .bl true) (.ok (.bl true, f) μ) := fun v H' m' _ _ r _ => by cases r; rfl
  rw [← run] at P
  have P : PostE G (fun _ => False) (fun _ => False) (WX0 fun _ _ _ => False) [] H [] (fun v _ => v = .bl true) (exitF false 0 (runSs (tb (pgOf L glob) k) 0 (trSs (d.trn (L.map (·.x)) true) (defScope d.st).names (defBody d.st)) ([D.scr ns].map some ++ List.replicate (d.N.length - 1) none) [])) := P
  have P2 := post_cut (n := 0) rfl (fun x z => z.elim) P
  have hq : tSs G (tb (pgOf L glob) k) 0 (WX0 fun _ _ _ => False) (trSs (d.trn (L.map (·.x)) true) (defScope d.st).names (defBody d.st)) { nx := fun _ H' => V.non = .bl true, rt := fun v _ => v = .bl true } (L2.start d.N [.ref a]) H :=
    ⟨_, _, [], [], _, fun x hx => hx.elim (fun z => z.elim) Nat.le_of_eq, R0.enter, VV, P2⟩
  refine wpAny_mono (body.run [] s1 _ H _ I hq) (fun fl s' hs => ?_) fun e s' hs => hs
  have fin : ∀ {σ' : L2.St} {H' : Hp} {v : V} {u : Value}, Inv (cxOf (L2N.CX prog w) prog w K mg base d.N d.x (defScope d.st) fa cdv callerA [] s H fun _ _ _ => False) [] σ' H' s' → RelV v u → v = .bl true → CE [] prog w H s (fun v _ => v = .bl true) u s' :=
    fun {σ' H' v u} J rv q => ⟨v, H', J.os, J.bare, J.base, J.hok, rv, q⟩
  cases fl with
  | ret u =>
    obtain ⟨v, σ', H', J, rv, q⟩ := hs
    exact fin J rv q
  | next =>
    obtain ⟨σ', H', J, q⟩ := hs
    cases q
  | brk =>
    obtain ⟨_, _, _, q⟩ := hs
    exact False.elim q
  | cont =>
    obtain ⟨_, _, _, q⟩ := hs
    exact False.elim q
theorem law_at (Tx : TxtOk K mg G L glob) (hT : prog.given.tree = none) {k : Nat} {d : DI} {x : Str} {fa a : Addr} {fd : FuncData} {s₁ : Shared} {vs : List Value} {ns : List Int} (KX : K.In s₁.heap) (hns : s₁.heap.Ns mainGlobals mg) (hb : s₁.heap.Ns builtinsNs mb) (hbb : ∀ x : Str, x ≠ "__name__" → mb x = bootBuiltins x)
    (hlim : s₁.heap.NoLimit) (hseer : s₁.heap.NoSeer) (hg : s₁.gens = #[]) (ha : s₁.heap.get? a = some { cls := .type "list", data := .seq vs.toArray }) (hi : IntsAre vs ns) (hl : ns.length ≤ sizeLine) (hr : Room (k + 41) callerA) (hrz : ∀ c, d.rz.contains c = true → ∃ C, ExcAt K mg G c C) (htr : d.tr = true → ∀ base, TryOk prog w K mg base G)
    (F : Fun K d.x d.x d.st fa fd) (sc : FnScope d.N [x] (defScope d.st)) (hbind : ∀ (s : Shared) (u : Value), BindsTo s fd ⟨[u], []⟩ [(x, u)]) {f : Nat} {μ : Sto} (run : runFn (tb (pgOf L glob) k) (lawFn (L.map (·.x)) d) 0 [.scr ns] [] = .ok (.bl true, f) μ) :
    codeAny (model prog w) callerA (.call (.ref fa) ⟨[.ref a], []⟩) (fun r s' => r = .ok (.ret (.bool true)) ∧ OldK s₁.heap s'.heap ∧ s'.os = s₁.os ∧ AllBare s'.gens) s₁ := by
  have rv := vals_ints hi
  have core : ∀ H : Hp, (∀ b, H b = none ∨ b = a ∧ H b = some (.frz { cls := .type "list", data := .seq vs.toArray } (.lst (ns.map V.int)))) → SqL K H a (ns.map V.int) → HOk prog w H s₁.heap → (H a ≠ none → K.lookup a = none) →
      codeAny (model prog w) callerA (.call (.ref fa) ⟨[.ref a], []⟩) (fun r s' => r = .ok (.ret (.bool true)) ∧ OldK s₁.heap s'.heap ∧ s'.os = s₁.os ∧ AllBare s'.gens) s₁ := by
    intro H hO hS hok hK
    have base_of : ∀ {b : Addr} {o : Obj}, s₁.heap.get? b = some o → H b = none → (hidT s₁.heap H).get? b = some o := fun e n => hidT_get e n
    have isDict : ∀ {b : Addr} {m : Str → Option Value}, s₁.heap.Ns b m → (hidT s₁.heap H).Ns b m := fun {b m} ⟨o, es, ep, e, dd, r⟩ => ⟨o, es, ep, base_of e (by
      rcases hO b with z | ⟨z, _⟩
      · exact z
      · rw [z, ha] at e
        cases e
        have dd : Data.seq vs.toArray _ = Data.dict es ep := dd
        cases dd), dd, r⟩
    have hKb : K.In (hidT s₁.heap H) := fun b o e => base_of (KX b o e) (by
      rcases hO b with z | ⟨z, y⟩
      · exact z
      · rw [z] at y e
        rw [hK (by rw [y]; simp)] at e; cases e)
    have hM : Mod K mg (hidT s₁.heap H) := ⟨hKb, isDict hns, ⟨mb, isDict hb, hbb⟩, let ⟨mc, h1, h2⟩ := hlim; ⟨mc, isDict h1, h2⟩⟩
    have hSeer : (hidT s₁.heap H).NoSeer := by
      obtain ⟨⟨mc, c1, c2⟩, ⟨mm, m1, m2⟩, ⟨mb', b1, b2⟩, ⟨mg', bm, ob, g1, g2, g3, g4, g5⟩⟩ := hseer
      refine ⟨⟨mc, isDict c1, c2⟩, ⟨mm, isDict m1, m2⟩, ⟨mb', isDict b1, b2⟩, ⟨mg', bm, ob, isDict g1, g2, base_of g3 ?_, g4, g5⟩⟩
      rcases hO bm with z | ⟨z, _⟩
      · exact z
      · rw [z, ha] at g3
        cases g3
        exact absurd g4 (by simp)
    have e0 : Env0 prog w K mg (hidT s₁.heap H) callerA [] s₁ H := ⟨rfl, hM, fun b o e => of_hidT e, Nat.le_of_eq (hidT_size _ _), trivial, fun b hb => (by cases hb), hok, .of_eq hg⟩
    refine codeAny_mono (law_body Tx hT ⟨hM.nolimit, hSeer⟩ hr hrz (fun z => htr z _) F sc (hbind s₁ (.ref a)) e0 hS run) fun r s' h => ?_
    cases r with
    | error e =>
      have h : L2N.CX prog w [] H s₁ (fun _ _ _ => False) e s' := h
      obtain ⟨_, _, _, _, _, _, _, _, _, _, _, _, z⟩ := h
      exact z.elim
    | ok fl =>
      cases fl with
      | ret u =>
        obtain ⟨v, H', os, bare, un, hok', r', q⟩ := h
        have q : v = .bl true := q
        subst q
        obtain rfl : u = Value.bool true := r'
        refine ⟨rfl, OldK.of_keep fun b o e => ?_, os, bare⟩
        rcases hO b with z | ⟨_, z⟩
        · exact un.keep b o e z (by intro y; cases y) (by simp)
        · obtain ⟨e1, _⟩ := hok b _ z
          obtain ⟨e2, _⟩ := hok' b _ (un.frzs b _ _ z)
          rw [e] at e1; cases e1
          exact e2
      | _ => exact False.elim h
  cases hk : K.lookup a with
  | some o =>
    have e := KX a o hk
    rw [ha] at e
    cases e
    exact core (fun _ => none) (fun _ => .inl rfl) (.inr ⟨_, vs.toArray, _, hk, rfl, rfl, rfl, by rw [List.size_toArray, hi.length]; exact hl, by simpa using rv⟩) (fun b u z => by cases z) fun z => absurd rfl z
  | none =>
    refine core (fun b => if b = a then some (.frz { cls := .type "list", data := .seq vs.toArray } (.lst (ns.map V.int))) else none) (fun b => ?_) (.inl (.inr ⟨_, if_pos rfl⟩)) (fun b u z => ?_) fun _ => hk
    · by_cases h : b = a
      · exact .inr ⟨h, if_pos h⟩
      · exact .inl (if_neg h)
    · by_cases h : b = a
      · have z' := (if_pos h).symm.trans z
        cases z'
        subst h
        exact ⟨ha, by rw [List.length_map]; exact hl, vs, _, rv, ha⟩
      · have z' := (if_neg h).symm.trans z
        cases z'
end
/-- the goal that k_head leaves -/
theorem walk_vm {l : PySem.W.OpenLaw} {n k : Nat} {q : Program} {loose : List Str} {XP : (Str → Option Value) → Heap → Prop} {YP : World → Heap → Prop} {d : DefRec} {K : Params → PySem.W.Frag} {x : Str}
    (hn : l.most = some n) (hn2 : n ≤ sizeLine) (hdf : d.params.defaults = []) (hr : Room (k + 41) callerA) (hq : importsNone q = true) (hT : ∀ w, (model l.prog w).prog.given.tree = none)
    (hY : ∀ (w : World) (h : Heap), YP w h → (K w.params).In h)
    (F : ∀ (w : World) (mg : Str → Option Value) (fa : Addr) (h : Heap), (K w.params).In h → h.Ns mainGlobals mg → mg d.name = some (.ref fa) →
      ∃ (G : Gb) (L : List DI) (glob : Str → Option D) (i : DI) (fd : FuncData), TxtOk (K w.params) mg G L glob ∧ (∀ c, i.rz.contains c = true → ∃ C, ExcAt (K w.params) mg G c C) ∧ (i.tr = true → ∀ prog w' base, TryOk prog w' (K w.params) mg base G) ∧ Fun (K w.params) i.x i.x i.st fa fd ∧ FnScope i.N [x] (defScope i.st) ∧ (∀ (s : Shared) (u : Value), BindsTo s fd ⟨[u], []⟩ [(x, u)]) ∧
        ∀ ns : List Int, ns.length ≤ n → (∀ z ∈ ns, Builtin.Int.intBits z ≤ 1048576) → ∃ f μ, runFn (tb (pgOf L glob) k) (lawFn (L.map (·.x)) i) 0 [.scr ns] [] = .ok (.bl true, f) μ) :
    PySem.W.WalkO q loose XP YP l.row.toRowW d [] (fun f vs => PySem.call f vs) := by
  refine Att.attach_callB hn hdf fun w s₀ s₁ mg mb fa o pm cd doc a vs ns G Y ho hd hcd hmg hobj hints hlen hbits hg => ?_
  have KX := hY w _ Y
  obtain ⟨Gb, L, glob, i, fd, Tx, hrz, htr, F1, sc, hb, run⟩ := F w mg fa _ KX G.T.g hmg
  obtain ⟨f, μ, run⟩ := run ns hlen hbits
  exact law_at Tx (hT w) KX G.T.g G.T.b G.T.builtins G.T.nolimit (G.T.seer hq) hg hobj hints (Nat.le_trans hlen hn2) hr hrz (fun z => htr z _ _) F1 sc hb run
end VM

set_option Elab.async false
set_option maxRecDepth 10000
set_option autoImplicit false
set_option linter.unusedVariables false
/-! reckoning on the machine, unsealed -/
namespace VM
open PySem L2
abbrev NoX : Exc → Sto → Prop := fun _ _ => False
def srcIt (μ : Sto) (d : D) : Option Src := match d with | .tup xs => some (.data xs) | d => srcL μ d
end VM
namespace VM.U
open PySem VM L2

def Wp {α : Type} (r : R α) (Q : α → Sto → Prop) (E : Exc → Sto → Prop) : Prop := match r with
  | .ok a μ => Q a μ
  | .err x μ => E x μ
  | .bad => False
def Ws (r : RS) (N : Ev → Sto → Prop) (Rt : D → Nat → Sto → Prop) (Bk Ct : Ev → Sto → Prop) (E : Exc → Ev → Sto → Prop) : Prop := match r with
  | .nx ρ μ => N ρ μ
  | .ret d f μ => Rt d f μ
  | .brk ρ μ => Bk ρ μ
  | .ct ρ μ => Ct ρ μ
  | .err x ρ μ => E x ρ μ
  | .bad => False
section
variable {α β : Type} {Q : α → Sto → Prop} {Q2 : β → Sto → Prop} {E : Exc → Sto → Prop} {μ : Sto} {T : Tb} {b : Nat} {ρ : Ev}
variable {N Bk Ct : Ev → Sto → Prop} {Rt : D → Nat → Sto → Prop} {X : Exc → Ev → Sto → Prop}
theorem wp_ok {a : α} : Wp (.ok a μ) Q E ↔ Q a μ := Iff.rfl
theorem wp_bad : Wp (.bad : R α) Q E ↔ False := Iff.rfl
theorem wp_err {x : Exc} : Wp (.err x μ : R α) Q E ↔ E x μ := Iff.rfl
theorem wp_bind {r : R α} {f : α → Sto → R β} : Wp (r.bind f) Q2 E ↔ Wp r (fun a μ => Wp (f a μ) Q2 E) E := by
  cases r <;> exact Iff.rfl
theorem wp_mono {r : R α} {Q' : α → Sto → Prop} {E' : Exc → Sto → Prop} (h : Wp r Q E) (k : ∀ a μ, Q a μ → Q' a μ) (j : ∀ x μ, E x μ → E' x μ) : Wp r Q' E' := by
  cases r with
  | ok a μ => exact k _ _ h
  | err x μ => exact j _ _ h
  | bad => exact h
theorem wp_okR {o : Option α} : Wp (okR o μ) Q E ↔ ∃ a, o = some a ∧ Q a μ := by
  cases o with
  | none => exact ⟨fun h => h.elim, fun ⟨_, h, _⟩ => by cases h⟩
  | some a => exact ⟨fun h => ⟨a, rfl, h⟩, fun ⟨_, h, q⟩ => by cases h; exact q⟩
theorem wp_if {c : Prop} [Decidable c] {r s : R α} : Wp (if c then r else s) Q E ↔ (c → Wp r Q E) ∧ (¬ c → Wp s Q E) := by
  by_cases h : c
  · rw [if_pos h]; exact ⟨fun q => ⟨fun _ => q, fun n => absurd h n⟩, fun q => q.1 h⟩
  · rw [if_neg h]; exact ⟨fun q => ⟨fun n => absurd n h, fun _ => q⟩, fun q => q.2 h⟩
theorem ws_st {r : R α} {f : α → Sto → RS} : Ws (r.st ρ f) N Rt Bk Ct X ↔ Wp r (fun a μ => Ws (f a μ) N Rt Bk Ct X) (fun x μ => X x ρ μ) := by
  cases r <;> exact Iff.rfl
theorem ws_nx : Ws (.nx ρ μ) N Rt Bk Ct X ↔ N ρ μ := Iff.rfl
theorem ws_ret {d : D} {f : Nat} : Ws (.ret d f μ) N Rt Bk Ct X ↔ Rt d f μ := Iff.rfl
theorem ws_cons {s : VM.S} {ss : Ss} : Ws (runSs T b (.cons s ss) ρ μ) N Rt Bk Ct X ↔ Ws (runS T b s ρ μ) (fun ρ1 μ1 => Ws (runSs T b ss ρ1 μ1) N Rt Bk Ct X) Rt Bk Ct X := by
  show Ws (match runS T b s ρ μ with | .nx ρ1 μ1 => runSs T b ss ρ1 μ1 | r => r) N Rt Bk Ct X ↔ _
  cases runS T b s ρ μ <;> exact Iff.rfl
theorem ws_seq {s : VM.S} {ss : Ss} (M : Ev → Sto → Prop) (h1 : Ws (runS T b s ρ μ) M Rt Bk Ct X) (h2 : ∀ ρ1 μ1, M ρ1 μ1 → Ws (runSs T b ss ρ1 μ1) N Rt Bk Ct X) : Ws (runSs T b (.cons s ss) ρ μ) N Rt Bk Ct X := by
  have e : runSs T b (.cons s ss) ρ μ = match runS T b s ρ μ with | .nx ρ1 μ1 => runSs T b ss ρ1 μ1 | r => r := rfl
  rw [e]
  cases q : runS T b s ρ μ with
  | nx ρ1 μ1 => rw [q] at h1; exact h2 _ _ h1
  | ret d f μ1 => rw [q] at h1; exact h1
  | brk ρ1 μ1 => rw [q] at h1; exact h1
  | ct ρ1 μ1 => rw [q] at h1; exact h1
  | err x ρ1 μ1 => rw [q] at h1; exact h1
  | bad => rw [q] at h1; exact h1
theorem ws_nil : Ws (runSs T b .nil ρ μ) N Rt Bk Ct X ↔ N ρ μ := Iff.rfl
theorem ws_ife {t : VM.E} {x y : Ss} : Ws (runS T b (.ife t x y) ρ μ) N Rt Bk Ct X ↔ Wp (evE T b t ρ μ) (fun d μ1 => ∃ k, truD μ1 d.1 = some k ∧ (k = true → Ws (runSs T b x ρ μ1) N Rt Bk Ct X) ∧ (k = false → Ws (runSs T b y ρ μ1) N Rt Bk Ct X)) (fun x μ => X x ρ μ) := by
  show Ws ((tst (evE T b t ρ μ)).st ρ fun k μ1 => match k with | true => runSs T b x ρ μ1 | false => runSs T b y ρ μ1) N Rt Bk Ct X ↔ _
  rw [ws_st]
  unfold tst
  rw [wp_bind]
  have : ∀ (d : D × Nat) (μ1 : Sto), Wp (okR (truD μ1 d.1) μ1) (fun k μ1 => Ws (match k with | true => runSs T b x ρ μ1 | false => runSs T b y ρ μ1) N Rt Bk Ct X) (fun x μ => X x ρ μ) ↔ ∃ k, truD μ1 d.1 = some k ∧ (k = true → Ws (runSs T b x ρ μ1) N Rt Bk Ct X) ∧ (k = false → Ws (runSs T b y ρ μ1) N Rt Bk Ct X) := by
    intro d μ1
    rw [wp_okR]
    refine exists_congr fun k => and_congr_right fun _ => ?_
    cases k <;> simp
  simp only [this]
theorem ws_mono {r : RS} {N' Bk' Ct' : Ev → Sto → Prop} {Rt' : D → Nat → Sto → Prop} {X' : Exc → Ev → Sto → Prop} (h : Ws r N Rt Bk Ct X) (h1 : ∀ ρ μ, N ρ μ → N' ρ μ) (h2 : ∀ d f μ, Rt d f μ → Rt' d f μ) (h3 : ∀ ρ μ, Bk ρ μ → Bk' ρ μ) (h4 : ∀ ρ μ, Ct ρ μ → Ct' ρ μ) (h5 : ∀ x ρ μ, X x ρ μ → X' x ρ μ) : Ws r N' Rt' Bk' Ct' X' := by
  cases r with
  | nx ρ μ => exact h1 _ _ h
  | ret d f μ => exact h2 _ _ _ h
  | brk ρ μ => exact h3 _ _ h
  | ct ρ μ => exact h4 _ _ h
  | err x ρ μ => exact h5 _ _ _ h
  | bad => exact h
/-! statements -/
theorem ws_set {i : Nat} {e : VM.E} : Ws (runS T b (.set (.name i) e) ρ μ) N Rt Bk Ct X ↔ Wp (evE T b e ρ μ) (fun d μ1 => N (ρ.set i (some d.1)) μ1) (fun x μ => X x ρ μ) := by
  show Ws ((evE T b e ρ μ).st ρ fun d μ1 => onlyNx (asg T b (.name i) d.1 ρ μ1)) N Rt Bk Ct X ↔ _
  rw [ws_st]; exact Iff.rfl
theorem ws_ret_ {e : VM.E} : Ws (runS T b (.ret e) ρ μ) N Rt Bk Ct X ↔ Wp (evE T b e ρ μ) (fun d μ1 => Rt d.1 d.2 μ1) (fun x μ => X x ρ μ) := by
  show Ws ((evE T b e ρ μ).st ρ fun d μ1 => .ret d.1 d.2 μ1) N Rt Bk Ct X ↔ _
  rw [ws_st]; exact Iff.rfl
theorem ws_expr {e : VM.E} : Ws (runS T b (.expr e) ρ μ) N Rt Bk Ct X ↔ Wp (evE T b e ρ μ) (fun d μ1 => N ρ μ1) (fun x μ => X x ρ μ) := by
  show Ws ((evE T b e ρ μ).st ρ fun _ μ1 => .nx ρ μ1) N Rt Bk Ct X ↔ _
  rw [ws_st]; exact Iff.rfl
theorem ws_retn : Ws (runS T b .retn ρ μ) N Rt Bk Ct X ↔ Rt .non 0 μ := Iff.rfl
theorem ws_pass : Ws (runS T b .pass ρ μ) N Rt Bk Ct X ↔ N ρ μ := Iff.rfl
theorem ws_brk : Ws (runS T b .brk ρ μ) N Rt Bk Ct X ↔ Bk ρ μ := Iff.rfl
theorem ws_cnt : Ws (runS T b .cnt ρ μ) N Rt Bk Ct X ↔ Ct ρ μ := Iff.rfl
theorem ws_sub {o i e : VM.E} : Ws (runS T b (.set (.sub o i) e) ρ μ) N Rt Bk Ct X ↔ Wp (evE T b e ρ μ) (fun d μ1 => Wp (evE T b o ρ μ1) (fun od μ2 => Wp (evE T b i ρ μ2) (fun id μ3 => ∃ μ4, setD b od.1 id.1 d.1 μ3 = some μ4 ∧ N ρ μ4) (fun x μ => X x ρ μ)) (fun x μ => X x ρ μ)) (fun x μ => X x ρ μ) := by
  show Ws ((evE T b e ρ μ).st ρ fun d μ1 => onlyNx (asg T b (.sub o i) d.1 ρ μ1)) N Rt Bk Ct X ↔ _
  rw [ws_st]
  have : ∀ (d : D × Nat) (μ1 : Sto), Ws (onlyNx (asg T b (.sub o i) d.1 ρ μ1)) N Rt Bk Ct X ↔ Wp (evE T b o ρ μ1) (fun od μ2 => Wp (evE T b i ρ μ2) (fun id μ3 => ∃ μ4, setD b od.1 id.1 d.1 μ3 = some μ4 ∧ N ρ μ4) (fun x μ => X x ρ μ)) (fun x μ => X x ρ μ) := by
    intro d μ1
    rw [asg_sub]
    cases evE T b o ρ μ1 with
    | bad => exact Iff.rfl
    | err x μ2 => exact Iff.rfl
    | ok od μ2 =>
      show Ws (onlyNx (match evE T b i ρ μ2 with
        | .ok id μ2 => match setD b od.1 id.1 d.1 μ2 with | some μ3 => .nx ρ μ3 | none => .bad
        | .err x μ2 => .err x ρ μ2
        | .bad => .bad)) N Rt Bk Ct X ↔ Wp (evE T b i ρ μ2) (fun id μ3 => ∃ μ4, setD b od.1 id.1 d.1 μ3 = some μ4 ∧ N ρ μ4) (fun x μ => X x ρ μ)
      cases evE T b i ρ μ2 with
      | bad => exact Iff.rfl
      | err x μ2 => exact Iff.rfl
      | ok id μ3 =>
        show Ws (onlyNx (match setD b od.1 id.1 d.1 μ3 with | some μ3 => .nx ρ μ3 | none => .bad)) N Rt Bk Ct X ↔ ∃ μ4, setD b od.1 id.1 d.1 μ3 = some μ4 ∧ N ρ μ4
        cases setD b od.1 id.1 d.1 μ3 with
        | none => exact ⟨fun h => h.elim, fun ⟨_, h, _⟩ => by cases h⟩
        | some μ4 => exact ⟨fun h => ⟨μ4, rfl, h⟩, fun ⟨_, h, q⟩ => by cases h; exact q⟩
  simp only [this]
/-! expressions -/
theorem x_var {i : Nat} {d : D} {Q : D × Nat → Sto → Prop} (h : ρ[i]? = some (some d)) : Wp (evE T b (.var i) ρ μ) Q E ↔ Q (d, 0) μ := by
  show Wp (match ρ[i]? with | some (some d) => .ok (d, 0) μ | _ => .bad) Q E ↔ _
  rw [h]; exact Iff.rfl
section
variable {Q : D × Nat → Sto → Prop} {x y z : VM.E} {es : VM.Es}
theorem x_non : Wp (evE T b .non ρ μ) Q E ↔ Q (.non, 0) μ := Iff.rfl
theorem x_npart : Wp (evE T b .npart ρ μ) Q E ↔ Q (.non, 0) μ := Iff.rfl
theorem x_bl {k : Bool} : Wp (evE T b (.bl k) ρ μ) Q E ↔ Q (.bl k, 0) μ := Iff.rfl
theorem x_int {i : Int} : Wp (evE T b (.int i) ρ μ) Q E ↔ Q (.int i, 0) μ := Iff.rfl
theorem x_str {s : Str} : Wp (evE T b (.str s) ρ μ) Q E ↔ Q (.str s, 0) μ := Iff.rfl
theorem x_glob {g : Str} : Wp (evE T b (.glob g) ρ μ) Q E ↔ ∃ d, T.glob g = some d ∧ Q (d, 0) μ := by
  show Wp (sh (T.glob g) μ) Q E ↔ _
  cases T.glob g with
  | none => exact ⟨fun h => h.elim, fun ⟨_, h, _⟩ => by cases h⟩
  | some d => exact ⟨fun h => ⟨d, rfl, h⟩, fun ⟨_, h, q⟩ => by cases h; exact q⟩
theorem x_bin {op : Operator} : Wp (evE T b (.bin op x y) ρ μ) Q E ↔ Wp (evE T b x ρ μ) (fun d μ1 => Wp (evE T b y ρ μ1) (fun e μ2 => Wp (binD op d.1 e.1 μ2) Q E) E) E := by
  show Wp ((evE T b x ρ μ).bind fun d μ1 => (evE T b y ρ μ1).bind fun e μ2 => binD op d.1 e.1 μ2) Q E ↔ _
  simp only [wp_bind]
theorem x_neg : Wp (evE T b (.neg x) ρ μ) Q E ↔ Wp (evE T b x ρ μ) (fun d μ1 => Wp (negD d.1 μ1) Q E) E := by
  show Wp ((evE T b x ρ μ).bind fun d μ1 => negD d.1 μ1) Q E ↔ _
  simp only [wp_bind]
theorem wp_sh {o : Option D} : Wp (sh o μ) Q E ↔ ∃ d, o = some d ∧ Q (d, 0) μ := by
  cases o with
  | none => exact ⟨fun h => h.elim, fun ⟨_, h, _⟩ => by cases h⟩
  | some d => exact ⟨fun h => ⟨d, rfl, h⟩, fun ⟨_, h, q⟩ => by cases h; exact q⟩
theorem wp_shb {o : Option Bool} {f : Bool → Bool} : Wp (sh (o.map fun k => D.bl (f k)) μ) Q E ↔ ∃ k, o = some k ∧ Q (.bl (f k), 0) μ := by
  cases o with
  | none => exact ⟨fun h => h.elim, fun ⟨_, h, _⟩ => by cases h⟩
  | some d => exact ⟨fun h => ⟨d, rfl, h⟩, fun ⟨_, h, q⟩ => by cases h; exact q⟩
theorem wp_sh0 {o : Option Bool} : Wp (sh (o.map D.bl) μ) Q E ↔ ∃ k, o = some k ∧ Q (.bl k, 0) μ := by
  cases o with
  | none => exact ⟨fun h => h.elim, fun ⟨_, h, _⟩ => by cases h⟩
  | some d => exact ⟨fun h => ⟨d, rfl, h⟩, fun ⟨_, h, q⟩ => by cases h; exact q⟩
theorem x_not : Wp (evE T b (.not x) ρ μ) Q E ↔ Wp (evE T b x ρ μ) (fun d μ1 => ∃ k, truD μ1 d.1 = some k ∧ Q (.bl !k, 0) μ1) E := by
  show Wp ((evE T b x ρ μ).bind fun d μ1 => sh ((truD μ1 d.1).map fun k => .bl !k) μ1) Q E ↔ _
  simp only [wp_bind, wp_shb]
theorem x_and : Wp (evE T b (.and x y) ρ μ) Q E ↔ Wp (evE T b x ρ μ) (fun d μ1 => ∃ k, truD μ1 d.1 = some k ∧ (k = true → Wp (evE T b y ρ μ1) Q E) ∧ (k = false → Q (d.1, 0) μ1)) E := by
  show Wp ((evE T b x ρ μ).bind fun d μ1 => match truD μ1 d.1 with | some true => evE T b y ρ μ1 | some false => .ok (d.1, 0) μ1 | none => .bad) Q E ↔ _
  have : ∀ (d : D × Nat) (μ1 : Sto), Wp (match truD μ1 d.1 with | some true => evE T b y ρ μ1 | some false => .ok (d.1, 0) μ1 | none => .bad) Q E ↔ ∃ k, truD μ1 d.1 = some k ∧ (k = true → Wp (evE T b y ρ μ1) Q E) ∧ (k = false → Q (d.1, 0) μ1) := by
    intro d μ1
    cases truD μ1 d.1 with
    | none => exact ⟨fun h => h.elim, fun ⟨_, h, _⟩ => by cases h⟩
    | some k => cases k <;> simp [Wp]
  simp only [wp_bind, this]
theorem x_or : Wp (evE T b (.or x y) ρ μ) Q E ↔ Wp (evE T b x ρ μ) (fun d μ1 => ∃ k, truD μ1 d.1 = some k ∧ (k = false → Wp (evE T b y ρ μ1) Q E) ∧ (k = true → Q (d.1, 0) μ1)) E := by
  show Wp ((evE T b x ρ μ).bind fun d μ1 => match truD μ1 d.1 with | some false => evE T b y ρ μ1 | some true => .ok (d.1, 0) μ1 | none => .bad) Q E ↔ _
  have : ∀ (d : D × Nat) (μ1 : Sto), Wp (match truD μ1 d.1 with | some false => evE T b y ρ μ1 | some true => .ok (d.1, 0) μ1 | none => .bad) Q E ↔ ∃ k, truD μ1 d.1 = some k ∧ (k = false → Wp (evE T b y ρ μ1) Q E) ∧ (k = true → Q (d.1, 0) μ1) := by
    intro d μ1
    cases truD μ1 d.1 with
    | none => exact ⟨fun h => h.elim, fun ⟨_, h, _⟩ => by cases h⟩
    | some k => cases k <;> simp [Wp]
  simp only [wp_bind, this]
theorem x_cmp {op : CmpOp} : Wp (evE T b (.cmp op x y) ρ μ) Q E ↔ Wp (evE T b x ρ μ) (fun d μ1 => Wp (evE T b y ρ μ1) (fun e μ2 => ∃ k, cmpD op d.1 e.1 μ2 = some k ∧ Q (.bl k, 0) μ2) E) E := by
  show Wp ((evE T b x ρ μ).bind fun d μ1 => (evE T b y ρ μ1).bind fun e μ2 => sh ((cmpD op d.1 e.1 μ2).map .bl) μ2) Q E ↔ _
  simp only [wp_bind, wp_sh0]
theorem x_cmp2 {op op2 : CmpOp} : Wp (evE T b (.cmp2 op op2 x y z) ρ μ) Q E ↔ Wp (evE T b x ρ μ) (fun d μ1 => Wp (evE T b y ρ μ1) (fun e μ2 => ∃ k, cmpD op d.1 e.1 μ2 = some k ∧ (k = true → Wp (evE T b z ρ μ2) (fun g μ3 => ∃ k, cmpD op2 e.1 g.1 μ3 = some k ∧ Q (.bl k, 0) μ3) E) ∧ (k = false → Q (.bl false, 0) μ2)) E) E := by
  show Wp ((evE T b x ρ μ).bind fun d μ1 => (evE T b y ρ μ1).bind fun e μ2 => match cmpD op d.1 e.1 μ2 with
    | some true => (evE T b z ρ μ2).bind fun g μ3 => sh ((cmpD op2 e.1 g.1 μ3).map .bl) μ3
    | some false => .ok (.bl false, 0) μ2
    | none => .bad) Q E ↔ _
  have : ∀ (d e : D × Nat) (μ2 : Sto), Wp (match cmpD op d.1 e.1 μ2 with
    | some true => (evE T b z ρ μ2).bind fun g μ3 => sh ((cmpD op2 e.1 g.1 μ3).map .bl) μ3
    | some false => .ok (.bl false, 0) μ2
    | none => .bad) Q E ↔ ∃ k, cmpD op d.1 e.1 μ2 = some k ∧ (k = true → Wp (evE T b z ρ μ2) (fun g μ3 => ∃ k, cmpD op2 e.1 g.1 μ3 = some k ∧ Q (.bl k, 0) μ3) E) ∧ (k = false → Q (.bl false, 0) μ2) := by
    intro d e μ2
    cases cmpD op d.1 e.1 μ2 with
    | none => exact ⟨fun h => h.elim, fun ⟨_, h, _⟩ => by cases h⟩
    | some k =>
      cases k with
      | true =>
        simp only [wp_bind, wp_sh0]
        exact ⟨fun h => ⟨true, rfl, fun _ => h, fun z => by cases z⟩, fun ⟨k, h, h1, _⟩ => by cases h; exact h1 rfl⟩
      | false => exact ⟨fun h => ⟨false, rfl, fun z => (by cases z), fun _ => h⟩, fun ⟨k, h, _, h1⟩ => by cases h; exact h1 rfl⟩
  simp only [wp_bind, this]
theorem x_ife {t : VM.E} : Wp (evE T b (.ife t x y) ρ μ) Q E ↔ Wp (evE T b t ρ μ) (fun d μ1 => ∃ k, truD μ1 d.1 = some k ∧ (k = true → Wp (evE T b x ρ μ1) Q E) ∧ (k = false → Wp (evE T b y ρ μ1) Q E)) E := by
  show Wp ((evE T b t ρ μ).bind fun d μ1 => match truD μ1 d.1 with | some true => evE T b x ρ μ1 | some false => evE T b y ρ μ1 | none => .bad) Q E ↔ _
  have : ∀ (d : D × Nat) (μ1 : Sto), Wp (match truD μ1 d.1 with | some true => evE T b x ρ μ1 | some false => evE T b y ρ μ1 | none => .bad) Q E ↔ ∃ k, truD μ1 d.1 = some k ∧ (k = true → Wp (evE T b x ρ μ1) Q E) ∧ (k = false → Wp (evE T b y ρ μ1) Q E) := by
    intro d μ1
    cases truD μ1 d.1 with
    | none => exact ⟨fun h => h.elim, fun ⟨_, h, _⟩ => by cases h⟩
    | some k => cases k <;> simp [Wp]
  simp only [wp_bind, this]
theorem x_lst : Wp (evE T b (.lst es) ρ μ) Q E ↔ Wp (evEs T b es ρ μ) (fun ds μ1 => ds.length ≤ sizeLine ∧ Q (.lst ds, 1) μ1) E := by
  show Wp ((evEs T b es ρ μ).bind fun ds μ1 => if ds.length ≤ sizeLine then .ok (.lst ds, 1) μ1 else .bad) Q E ↔ _
  simp only [wp_bind, wp_if, wp_ok, wp_bad]
  have : ∀ (p q : Prop), (p → q) ∧ (¬ p → False) ↔ p ∧ q := fun p q => ⟨fun ⟨h1, h2⟩ => have hp := Classical.byContradiction h2; ⟨hp, h1 hp⟩, fun ⟨h1, h2⟩ => ⟨fun _ => h2, fun n => n h1⟩⟩
  simp only [this]
theorem x_tup : Wp (evE T b (.tup es) ρ μ) Q E ↔ Wp (evEs T b es ρ μ) (fun ds μ1 => ds.length ≤ sizeLine ∧ Q (.tup ds, 0) μ1) E := by
  show Wp ((evEs T b es ρ μ).bind fun ds μ1 => if ds.length ≤ sizeLine then .ok (.tup ds, 0) μ1 else .bad) Q E ↔ _
  simp only [wp_bind, wp_if, wp_ok, wp_bad]
  have : ∀ (p q : Prop), (p → q) ∧ (¬ p → False) ↔ p ∧ q := fun p q => ⟨fun ⟨h1, h2⟩ => have hp := Classical.byContradiction h2; ⟨hp, h1 hp⟩, fun ⟨h1, h2⟩ => ⟨fun _ => h2, fun n => n h1⟩⟩
  simp only [this]
theorem x_ix : Wp (evE T b (.ix x y) ρ μ) Q E ↔ Wp (evE T b x ρ μ) (fun d μ1 => Wp (evE T b y ρ μ1) (fun e μ2 => ∃ r, ixD d.1 e.1 μ2 = some r ∧ Q (r, 0) μ2) E) E := by
  show Wp ((evE T b x ρ μ).bind fun d μ1 => (evE T b y ρ μ1).bind fun e μ2 => sh (ixD d.1 e.1 μ2) μ2) Q E ↔ _
  simp only [wp_bind, wp_sh]
theorem x_call {f : Str} : Wp (evE T b (.call f es) ρ μ) Q E ↔ Wp (evEs T b es ρ μ) (fun ds μ1 => Wp (T.call f b ds μ1) Q E) E := by
  show Wp ((evEs T b es ρ μ).bind fun ds μ1 => T.call f b ds μ1) Q E ↔ _
  simp only [wp_bind]
theorem x_bi {f : Str} : Wp (evE T b (.bi f es) ρ μ) Q E ↔ Wp (evEs T b es ρ μ) (fun ds μ1 => Wp (biD f ds μ1) Q E) E := by
  show Wp ((evEs T b es ρ μ).bind fun ds μ1 => biD f ds μ1) Q E ↔ _
  simp only [wp_bind]
theorem x_thaw : Wp (evE T b (.thaw x) ρ μ) Q E ↔ Wp (evE T b x ρ μ) (fun d μ1 => ∃ xs f, d = (.lst xs, f + 1) ∧ Q (.cell μ1.length, 0) (μ1 ++ [.lst xs])) E := by
  show Wp ((evE T b x ρ μ).bind fun d μ1 => match d with | (.lst xs, f + 1) => .ok (.cell μ1.length, 0) (μ1 ++ [.lst xs]) | _ => .bad) Q E ↔ _
  have : ∀ (d : D × Nat) (μ1 : Sto), Wp (match d with | (.lst xs, f + 1) => .ok (.cell μ1.length, 0) (μ1 ++ [.lst xs]) | _ => (.bad : R (D × Nat))) Q E ↔ ∃ xs f, d = (.lst xs, f + 1) ∧ Q (.cell μ1.length, 0) (μ1 ++ [.lst xs]) := by
    intro d μ1
    obtain ⟨d, f⟩ := d
    cases d with
    | lst xs =>
      cases f with
      | zero => exact ⟨fun h => h.elim, fun ⟨_, _, h, _⟩ => by cases h⟩
      | succ f => exact ⟨fun h => ⟨xs, f, rfl, h⟩, fun ⟨_, _, h, q⟩ => by cases h; exact q⟩
    | _ => exact ⟨fun h => h.elim, fun ⟨_, _, h, _⟩ => by cases h⟩
  simp only [wp_bind, this]
end
theorem ws_nilE {Q : List D → Sto → Prop} : Wp (evEs T b .nil ρ μ) Q E ↔ Q [] μ := Iff.rfl
theorem ws_consE {Q : List D → Sto → Prop} {x : VM.E} {es : VM.Es} : Wp (evEs T b (.cons x es) ρ μ) Q E ↔ Wp (evE T b x ρ μ) (fun d μ1 => Wp (evEs T b es ρ μ1) (fun ds μ2 => Q (d.1 :: ds) μ2) E) E := by
  show Wp ((evE T b x ρ μ).bind fun d μ1 => (evEs T b es ρ μ1).bind fun ds μ2 => .ok (d.1 :: ds) μ2) Q E ↔ _
  simp only [wp_bind, wp_ok]
/-! calls -/
theorem wp_run {p s : Nat} {body : Ss} {ds : List D} {Q : D × Nat → Sto → Prop} (h : ds.length = p) : Wp (runFn T ⟨p, s, false, body⟩ b ds μ) Q E ↔
    Ws (runSs T μ.length body (ds.map some ++ List.replicate (s - p) none) μ) (fun _ μ' => Q (.non, 0) (μ'.take μ.length)) (fun d f μ' => ∃ x, frzTop μ.length d f μ' = some x ∧ Q x (μ'.take μ.length)) (fun _ _ => False) (fun _ _ => False) (fun x _ μ' => E x (μ'.take μ.length)) := by
  unfold runFn
  rw [if_pos h]
  show Wp (exitF false μ.length (runSs T μ.length body (ds.map some ++ List.replicate (s - p) none) μ)) Q E ↔ _
  cases runSs T μ.length body (ds.map some ++ List.replicate (s - p) none) μ with
  | ret d f μ' => exact wp_okR
  | _ => exact Iff.rfl
end


section
variable {E : Exc → Sto → Prop} {μ : Sto} {T : Tb} {b : Nat} {ρ : Ev} {Q : D × Nat → Sto → Prop}
theorem y_var {i : Nat} : Wp (evE T b (.var i) ρ μ) Q E ↔ ∃ d, ρ[i]? = some (some d) ∧ Q (d, 0) μ := by
  show Wp (match ρ[i]? with | some (some d) => .ok (d, 0) μ | _ => .bad) Q E ↔ _
  cases h : ρ[i]? with
  | none => exact ⟨fun h => h.elim, fun ⟨_, h, _⟩ => by cases h⟩
  | some o =>
    cases o with
    | none => exact ⟨fun h => h.elim, fun ⟨_, h, _⟩ => by cases h⟩
    | some d => exact ⟨fun h => ⟨d, rfl, h⟩, fun ⟨_, h, q⟩ => by cases h; exact q⟩
theorem and_if {p q : Prop} : ((p → q) ∧ (¬ p → False)) ↔ p ∧ q := ⟨fun ⟨h1, h2⟩ => have hp := Classical.byContradiction h2; ⟨hp, h1 hp⟩, fun ⟨h1, h2⟩ => ⟨fun _ => h2, fun n => n h1⟩⟩
section
variable {i j : Int}
theorem n_add : Wp (binD .Add (.int i) (.int j) μ) Q E ↔ Q (.int (i + j), 0) μ := Iff.rfl
theorem n_sub : Wp (binD .Sub (.int i) (.int j) μ) Q E ↔ Q (.int (i - j), 0) μ := Iff.rfl
theorem n_mul : Wp (binD .Mult (.int i) (.int j) μ) Q E ↔ i.natAbs.log2 + j.natAbs.log2 < 130000000 ∧ Q (.int (i * j), 0) μ := by
  show Wp (if i.natAbs.log2 + j.natAbs.log2 < 130000000 then .ok (.int (i * j), 0) μ else .bad) Q E ↔ _
  rw [wp_if]; exact and_if
theorem n_mod : Wp (binD .Mod (.int i) (.int j) μ) Q E ↔ j ≠ 0 ∧ Q (.int (i.fmod j), 0) μ := by
  show Wp (sh ((if j ≠ 0 then some (i.fmod j) else none).map .int) μ) Q E ↔ _
  by_cases h : j ≠ 0
  · rw [if_pos h]; exact ⟨fun q => ⟨h, q⟩, fun q => q.2⟩
  · rw [if_neg h]; exact ⟨fun q => q.elim, fun q => absurd q.1 h⟩
theorem n_fdiv : Wp (binD .FloorDiv (.int i) (.int j) μ) Q E ↔ j ≠ 0 ∧ Q (.int (i.fdiv j), 0) μ := by
  show Wp (sh ((if j ≠ 0 then some (i.fdiv j) else none).map .int) μ) Q E ↔ _
  by_cases h : j ≠ 0
  · rw [if_pos h]; exact ⟨fun q => ⟨h, q⟩, fun q => q.2⟩
  · rw [if_neg h]; exact ⟨fun q => q.elim, fun q => absurd q.1 h⟩
theorem n_pow : Wp (binD .Pow (.int i) (.int j) μ) Q E ↔ (0 ≤ j ∧ j ≤ 1000000 ∧ i.natAbs < 2 ^ 64) ∧ Q (.int (i ^ j.toNat), 0) μ := by
  show Wp (sh ((if 0 ≤ j ∧ j ≤ 1000000 ∧ i.natAbs < 2 ^ 64 then some (i ^ j.toNat) else none).map .int) μ) Q E ↔ _
  by_cases h : 0 ≤ j ∧ j ≤ 1000000 ∧ i.natAbs < 2 ^ 64
  · rw [if_pos h]; exact ⟨fun q => ⟨h, q⟩, fun q => q.2⟩
  · rw [if_neg h]; exact ⟨fun q => q.elim, fun q => absurd q.1 h⟩
theorem n_neg : Wp (negD (.int i) μ) Q E ↔ Q (.int (-i), 0) μ := Iff.rfl
theorem c_lt : cmpD .Lt (.int i) (.int j) μ = some (decide (i < j)) := rfl
theorem c_le : cmpD .LtE (.int i) (.int j) μ = some (decide (i ≤ j)) := rfl
theorem c_gt : cmpD .Gt (.int i) (.int j) μ = some (decide (i > j)) := rfl
theorem c_ge : cmpD .GtE (.int i) (.int j) μ = some (decide (i ≥ j)) := rfl
theorem shaped_int : SeqAt.shaped (.int i) = true := by unfold SeqAt.shaped; rfl
theorem eqv_int : PyData.eqv (.int i) (.int j) = decide (i = j) := by
  unfold PyData.eqv
  first | rfl | simp [PyData.eqv] 
theorem c_eq : cmpD .Eq (.int i) (.int j) μ = some (decide (i = j)) := by
  show (if SeqAt.shaped (.int i) && SeqAt.shaped (.int j) then some (PyData.eqv (.int i) (.int j)) else none) = _
  rw [shaped_int, shaped_int, eqv_int]; rfl
theorem c_ne : cmpD .NotEq (.int i) (.int j) μ = some (decide (i ≠ j)) := by
  show (cmpD .Eq (.int i) (.int j) μ).map (fun k => !k) = _
  rw [c_eq]
  simp
end
theorem t_bl {k : Bool} : truD μ (.bl k) = some k := rfl
theorem t_int {i : Int} : truD μ (.int i) = some (i != 0) := rfl
theorem f_int {n f : Nat} {i : Int} : frzTop n (.int i) f μ = some (.int i, 0) := rfl
theorem f_bl {n f : Nat} {k : Bool} : frzTop n (.bl k) f μ = some (.bl k, 0) := rfl
theorem f_non {n f : Nat} : frzTop n .non f μ = some (.non, 0) := rfl
theorem f_str {n f : Nat} {s : Str} : frzTop n (.str s) f μ = some (.str s, 0) := rfl
theorem ix_cell {l : Nat} {xs : List D} {i : Int} (h : μ[l]? = some (.lst xs)) : ixD (.cell l) (.int i) μ = atI xs i := by
  show (match (match μ[l]? with | some (C.lst xs) => some xs | _ => none) with | some xs => atI xs i | none => none) = _
  rw [h]
theorem ix_lst {xs : List D} {i : Int} : ixD (.lst xs) (.int i) μ = atI xs i := rfl
theorem ix_tup {xs : List D} {i : Int} : ixD (.tup xs) (.int i) μ = atI xs i := rfl
theorem ix_scr {ns : List Int} {i : Int} : ixD (.scr ns) (.int i) μ = atI (ns.map .int) i := rfl
theorem atN {α : Type} {xs : List α} {i : Int} (h0 : 0 ≤ i) (h1 : i < xs.length) : atI xs i = xs[i.toNat]? := by
  unfold atI ixN
  rw [if_pos h0, if_pos h1]; rfl
theorem at0 {α : Type} {x : α} {xs : List α} : atI (x :: xs) 0 = some x := by
  rw [atN (by decide) (by simp only [List.length_cons]; omega)]; rfl
theorem at1 {α : Type} {x y : α} {xs : List α} : atI (x :: y :: xs) 1 = some y := by
  rw [atN (by decide) (by simp only [List.length_cons]; omega)]; rfl
theorem at2 {α : Type} {x y z : α} {xs : List α} : atI (x :: y :: z :: xs) 2 = some z := by
  rw [atN (by decide) (by simp only [List.length_cons]; omega)]; rfl
theorem ixN_ok {n : Nat} {i : Int} (h0 : 0 ≤ i) (h1 : i < n) : ixN n i = some i.toNat := by
  unfold ixN
  rw [if_pos h0, if_pos h1]
theorem set_cell {l j : Nat} {xs : List D} {i : Int} {v : D} (h : μ[l]? = some (.lst xs)) (hj : ixN xs.length i = some j) (hp : mayPut b l v = true) : setD b (.cell l) (.int i) v μ = some (μ.set l (.lst (xs.set j v))) := by
  unfold setD
  simp only [h, hj, hp, if_true]
theorem put_int {l : Nat} {i : Int} : mayPut b l (.int i) = true := by unfold mayPut; simp [noRef]
end


section
variable {E : Exc → Sto → Prop} {μ : Sto} {T : Tb} {b : Nat} {ρ : Ev} {N Bk Ct : Ev → Sto → Prop} {Rt : D → Nat → Sto → Prop} {X : Exc → Ev → Sto → Prop}
theorem wp_noErr {α : Type} {r : R α} {Q : α → Sto → Prop} : Wp (noErr r) Q E ↔ Wp r Q NoX := by cases r <;> exact Iff.rfl
theorem x_lc {elt c : VM.E} {tg : VM.Tg} {it : VM.It} {own : List Nat} {Q : D × Nat → Sto → Prop} : Wp (evE T b (.lc elt tg it c own) ρ μ) Q E ↔ Wp (evIt T b it ρ μ) (fun src μ1 => Wp (lcLoop (lcF T b elt tg c own ρ) src (src.size μ1 + 1) 0 [] μ1) (fun xs μ2 => Q (.lst xs, 1) μ2) NoX) E := by
  rw [evE_lc]
  simp only [wp_bind, wp_noErr, wp_ok]
theorem lc_name {elt c : VM.E} {i : Nat} {own : List Nat} {x : D} {Q : Option D → Sto → Prop} : Wp (lcF T b elt (.name i) c own ρ x μ) Q E ↔ Wp (evE T b c ((wipeD ρ own).set i (some x)) μ) (fun k μ1 => ∃ t, truD μ1 k.1 = some t ∧ (t = true → Wp (evE T b elt ((wipeD ρ own).set i (some x)) μ1) (fun y μ2 => Q (some y.1) μ2) E) ∧ (t = false → Q none μ1)) E := by
  show Wp ((evE T b c ((wipeD ρ own).set i (some x)) μ).bind fun k μ1 => match truD μ1 k.1 with
    | some true => (evE T b elt ((wipeD ρ own).set i (some x)) μ1).bind fun y μ2 => .ok (some y.1) μ2
    | some false => .ok none μ1
    | none => .bad) Q E ↔ _
  have : ∀ (k : D × Nat) (μ1 : Sto), Wp (match truD μ1 k.1 with
    | some true => (evE T b elt ((wipeD ρ own).set i (some x)) μ1).bind fun y μ2 => .ok (some y.1) μ2
    | some false => .ok none μ1
    | none => .bad) Q E ↔ ∃ t, truD μ1 k.1 = some t ∧ (t = true → Wp (evE T b elt ((wipeD ρ own).set i (some x)) μ1) (fun y μ2 => Q (some y.1) μ2) E) ∧ (t = false → Q none μ1) := by
    intro k μ1
    cases truD μ1 k.1 with
    | none => exact ⟨fun h => h.elim, fun ⟨_, h, _⟩ => by cases h⟩
    | some t =>
      cases t with
      | true =>
        simp only [wp_bind, wp_ok]
        exact ⟨fun h => ⟨true, rfl, fun _ => h, fun z => by cases z⟩, fun ⟨_, h, h1, _⟩ => by cases h; exact h1 rfl⟩
      | false => exact ⟨fun h => ⟨false, rfl, fun z => (by cases z), fun _ => h⟩, fun ⟨_, h, _, h1⟩ => by cases h; exact h1 rfl⟩
  simp only [wp_bind, this]
theorem lc_two {elt c : VM.E} {i j : Nat} {own : List Nat} {x y : D} {Q : Option D → Sto → Prop} : Wp (lcF T b elt (.tup (.cons (.name i) (.cons (.name j) .nil))) c own ρ (.tup [x, y]) μ) Q E ↔ Wp (evE T b c (((wipeD ρ own).set i (some x)).set j (some y)) μ) (fun k μ1 => ∃ t, truD μ1 k.1 = some t ∧ (t = true → Wp (evE T b elt (((wipeD ρ own).set i (some x)).set j (some y)) μ1) (fun y μ2 => Q (some y.1) μ2) E) ∧ (t = false → Q none μ1)) E := by
  show Wp ((evE T b c (((wipeD ρ own).set i (some x)).set j (some y)) μ).bind fun k μ1 => match truD μ1 k.1 with
    | some true => (evE T b elt (((wipeD ρ own).set i (some x)).set j (some y)) μ1).bind fun y μ2 => .ok (some y.1) μ2
    | some false => .ok none μ1
    | none => .bad) Q E ↔ _
  have : ∀ (k : D × Nat) (μ1 : Sto), Wp (match truD μ1 k.1 with
    | some true => (evE T b elt (((wipeD ρ own).set i (some x)).set j (some y)) μ1).bind fun y μ2 => .ok (some y.1) μ2
    | some false => .ok none μ1
    | none => .bad) Q E ↔ ∃ t, truD μ1 k.1 = some t ∧ (t = true → Wp (evE T b elt (((wipeD ρ own).set i (some x)).set j (some y)) μ1) (fun y μ2 => Q (some y.1) μ2) E) ∧ (t = false → Q none μ1) := by
    intro k μ1
    cases truD μ1 k.1 with
    | none => exact ⟨fun h => h.elim, fun ⟨_, h, _⟩ => by cases h⟩
    | some t =>
      cases t with
      | true =>
        simp only [wp_bind, wp_ok]
        exact ⟨fun h => ⟨true, rfl, fun _ => h, fun z => by cases z⟩, fun ⟨_, h, h1, _⟩ => by cases h; exact h1 rfl⟩
      | false => exact ⟨fun h => ⟨false, rfl, fun z => (by cases z), fun _ => h⟩, fun ⟨_, h, _, h1⟩ => by cases h; exact h1 rfl⟩
  simp only [wp_bind, this]
/-- a comprehension's loop, by an invariant; xs what is walked -/
theorem wp_lcLoop {F : D → Sto → R (Option D)} {src : Src} {xs : List D} {Q : List D → Sto → Prop} (I : Nat → List D → Sto → Prop) (hsrc : ∀ i acc μ', I i acc μ' → src.at μ' i = nxO xs[i]?) (hsz : src.size μ = xs.length) (h0 : I 0 [] μ)
    (hs : ∀ i x acc μ', xs[i]? = some x → I i acc μ' → Wp (F x μ') (fun y μ2 => match y with | none => I (i + 1) acc μ2 | some d => acc.length < sizeLine ∧ I (i + 1) (acc ++ [d]) μ2) E) (he : ∀ acc μ', I xs.length acc μ' → Q acc μ') :
    Wp (lcLoop F src (src.size μ + 1) 0 [] μ) Q E := by
  have key : ∀ (k i : Nat) (acc : List D) (μ' : Sto), i + k = xs.length + 1 → i ≤ xs.length → I i acc μ' → Wp (lcLoop F src k i acc μ') Q E := by
    intro k
    induction k with
    | zero => intro i acc μ' h1 h2 _; omega
    | succ k ih =>
      intro i acc μ' h1 h2 hI
      show Wp (match src.at μ' i with
        | .bad => .bad
        | .done => .ok acc μ'
        | .item x => (F x μ').bind fun y μ1 => match y with
          | none => lcLoop F src k (i + 1) acc μ1
          | some d => if acc.length < sizeLine then lcLoop F src k (i + 1) (acc ++ [d]) μ1 else .bad) Q E
      rw [hsrc i acc μ' hI]
      by_cases hi : i < xs.length
      · rw [List.getElem?_eq_getElem hi]
        have := hs i xs[i] acc μ' (List.getElem?_eq_getElem hi) hI
        show Wp ((F xs[i] μ').bind _) Q E
        rw [wp_bind]
        refine wp_mono this (fun y μ2 h => ?_) fun _ _ h => h
        cases y with
        | none => exact ih _ _ _ (by omega) (by omega) h
        | some d =>
          show Wp (if acc.length < sizeLine then lcLoop F src k (i + 1) (acc ++ [d]) μ2 else .bad) Q E
          rw [if_pos h.1]
          exact ih _ _ _ (by omega) (by omega) h.2
      · have hi : i = xs.length := by omega
        subst hi
        rw [List.getElem?_eq_none (Nat.le_refl _)]
        exact he acc μ' hI
  rw [hsz]
  exact key _ 0 [] μ (by omega) (by omega) h0
/-- nothing is written on the way -/
theorem wp_lcPure {F : D → Sto → R (Option D)} {src : Src} {xs : List D} {Q : List D → Sto → Prop} (g : D → Option D) (hsrc : ∀ i, src.at μ i = nxO xs[i]?) (hsz : src.size μ = xs.length) (hlen : xs.length ≤ sizeLine)
    (hs : ∀ x ∈ xs, Wp (F x μ) (fun y μ2 => μ2 = μ ∧ y = g x) E) (he : Q (xs.filterMap g) μ) : Wp (lcLoop F src (src.size μ + 1) 0 [] μ) Q E := by
  refine wp_lcLoop (xs := xs) (fun i acc μ' => μ' = μ ∧ acc = (xs.take i).filterMap g) (fun i acc μ' h => by rw [h.1]; exact hsrc i) hsz ⟨rfl, by simp⟩ (fun i x acc μ' hx hI => ?_) fun acc μ' hI => ?_
  · obtain ⟨rfl, rfl⟩ := hI
    have hi := (List.getElem?_eq_some_iff.mp hx).1
    have e : xs.take (i + 1) = xs.take i ++ [x] := by rw [List.take_add_one, hx]; rfl
    refine wp_mono (hs x (List.mem_of_getElem? hx)) (fun y μ2 h => ?_) fun _ _ h => h
    obtain ⟨rfl, rfl⟩ := h
    have l1 : ((xs.take i).filterMap g).length ≤ i := Nat.le_trans (List.length_filterMap_le _ _) (by rw [List.length_take]; omega)
    cases q : g x with
    | none => exact ⟨rfl, by rw [e, List.filterMap_append]; simp [q]⟩
    | some d => exact ⟨by omega, rfl, by rw [e, List.filterMap_append]; simp [q]⟩
  · obtain ⟨rfl, rfl⟩ := hI
    rw [List.take_length]; exact he
theorem src_data {xs : List D} (i : Nat) : (Src.data xs).at μ i = nxO xs[i]? := rfl
theorem src_cell {l : Nat} {xs : List D} (h : μ[l]? = some (.lst xs)) (i : Nat) : (Src.cell l).at μ i = nxO xs[i]? := by unfold Src.at; rw [h]
theorem size_cell {l : Nat} {xs : List D} (h : μ[l]? = some (.lst xs)) : (Src.cell l).size μ = xs.length := by unfold Src.size; rw [h]
theorem src_zip {a c : Src} {xs ys : List D} {i : Nat} (h1 : a.at μ i = nxO xs[i]?) (h2 : c.at μ i = nxO ys[i]?) : (Src.zip a c).at μ i = nxO (xs.zipWith (fun x y => D.tup [x, y]) ys)[i]? := by
  show nxZ (a.at μ i) (c.at μ i) = _
  rw [h1, h2, List.getElem?_zipWith]
  cases xs[i]? <;> cases ys[i]? <;> rfl
/-- a for loop over what is walked, by an invariant -/
theorem ws_for {i : Nat} {it : VM.It} {body : Ss} (h : Wp (evIt T b it ρ μ) (fun src μ1 => ∃ (xs : List D) (I : Nat → Ev → Sto → Prop), (∀ k ρ' μ', I k ρ' μ' → src.at μ' k = nxO xs[k]?) ∧ src.size μ1 = xs.length ∧ I 0 ρ μ1 ∧
      (∀ k x ρ' μ', xs[k]? = some x → I k ρ' μ' → Ws (runSs T b body (ρ'.set i (some x)) μ') (I (k + 1)) Rt N (I (k + 1)) X) ∧ ∀ ρ' μ', I xs.length ρ' μ' → N ρ' μ') (fun x μ => X x ρ μ)) :
    Ws (runS T b (.for_ (.name i) it body) ρ μ) N Rt Bk Ct X := by
  show Ws ((evIt T b it ρ μ).st ρ fun src μ1 => forLoop (asg T b (.name i)) (fun ρ μ => runSs T b body ρ μ) src (src.size μ1 + 1) 0 ρ μ1) N Rt Bk Ct X
  rw [ws_st]
  refine wp_mono h (fun src μ1 ⟨xs, I, hsrc, hsz, h0, hs, he⟩ => ?_) fun _ _ h => h
  have key : ∀ (k j : Nat) (ρ' : Ev) (μ' : Sto), j + k = xs.length + 1 → j ≤ xs.length → I j ρ' μ' → Ws (forLoop (asg T b (.name i)) (fun ρ μ => runSs T b body ρ μ) src k j ρ' μ') N Rt Bk Ct X := by
    intro k
    induction k with
    | zero => intro j ρ' μ' h1 h2 _; omega
    | succ k ih =>
      intro j ρ' μ' h1 h2 hI
      show Ws (match src.at μ' j with
        | .bad => .bad
        | .done => .nx ρ' μ'
        | .item x => match asg T b (.name i) x ρ' μ' with
          | .nx ρ1 μ1 => match runSs T b body ρ1 μ1 with
            | .nx ρ2 μ2 => forLoop (asg T b (.name i)) (fun ρ μ => runSs T b body ρ μ) src k (j + 1) ρ2 μ2
            | .ct ρ2 μ2 => forLoop (asg T b (.name i)) (fun ρ μ => runSs T b body ρ μ) src k (j + 1) ρ2 μ2
            | .brk ρ2 μ2 => .nx ρ2 μ2
            | r => r
          | .err x ρ μ => .err x ρ μ
          | _ => .bad) N Rt Bk Ct X
      rw [hsrc j ρ' μ' hI]
      by_cases hj : j < xs.length
      · rw [List.getElem?_eq_getElem hj]
        have := hs j xs[j] ρ' μ' (List.getElem?_eq_getElem hj) hI
        show Ws (match runSs T b body (ρ'.set i (some xs[j])) μ' with
            | .nx ρ2 μ2 => forLoop (asg T b (.name i)) (fun ρ μ => runSs T b body ρ μ) src k (j + 1) ρ2 μ2
            | .ct ρ2 μ2 => forLoop (asg T b (.name i)) (fun ρ μ => runSs T b body ρ μ) src k (j + 1) ρ2 μ2
            | .brk ρ2 μ2 => .nx ρ2 μ2
            | r => r) N Rt Bk Ct X
        cases q : runSs T b body (ρ'.set i (some xs[j])) μ' with
        | nx ρ2 μ2 => rw [q] at this; exact ih _ _ _ (by omega) (by omega) this
        | ct ρ2 μ2 => rw [q] at this; exact ih _ _ _ (by omega) (by omega) this
        | brk ρ2 μ2 => rw [q] at this; exact this
        | ret d f μ2 => rw [q] at this; exact this
        | err x ρ2 μ2 => rw [q] at this; exact this
        | bad => rw [q] at this; exact this
      · have hj : j = xs.length := by omega
        subst hj
        rw [List.getElem?_eq_none (Nat.le_refl _)]
        exact he ρ' μ' hI
  rw [hsz]
  exact key _ 0 ρ μ1 (by omega) (by omega) h0
/-! what is walked -/
section
variable {Q : Src → Sto → Prop} {x y : VM.E}
theorem i_exD : Wp (evIt T b (.ex x) ρ μ) Q E ↔ Wp (evE T b x ρ μ) (fun d μ1 => ∃ s, srcIt μ1 d.1 = some s ∧ Q s μ1) E := by
  show Wp ((evE T b x ρ μ).bind fun d μ1 => okR (srcIt μ1 d.1) μ1) Q E ↔ _
  simp only [wp_bind, wp_okR]
theorem i_r1 : Wp (evIt T b (.rng1 x) ρ μ) Q E ↔ Wp (evE T b x ρ μ) (fun d μ1 => ∃ j, d.1 = .int j ∧ smallI j = true ∧ Q (.data (rangeD 0 j.toNat)) μ1) E := by
  show Wp ((evE T b x ρ μ).bind fun d μ1 => match d.1 with | .int j => if smallI j then .ok (.data (rangeD 0 j.toNat)) μ1 else .bad | _ => .bad) Q E ↔ _
  have : ∀ (d : D × Nat) (μ1 : Sto), Wp (match d.1 with | .int j => if smallI j then .ok (.data (rangeD 0 j.toNat)) μ1 else .bad | _ => (.bad : R Src)) Q E ↔ ∃ j, d.1 = .int j ∧ smallI j = true ∧ Q (.data (rangeD 0 j.toNat)) μ1 := by
    intro d μ1
    obtain ⟨d, f⟩ := d
    cases d with
    | int j =>
      show Wp (if smallI j then .ok (.data (rangeD 0 j.toNat)) μ1 else .bad) Q E ↔ _
      rw [wp_if]
      exact ⟨fun h => ⟨j, rfl, (and_if.mp h).1, (and_if.mp h).2⟩, fun ⟨_, h, h1, h2⟩ => by cases h; exact and_if.mpr ⟨h1, h2⟩⟩
    | _ => exact ⟨fun h => h.elim, fun ⟨_, h, _⟩ => by cases h⟩
  simp only [wp_bind, this]
theorem i_r2 : Wp (evIt T b (.rng2 x y) ρ μ) Q E ↔ Wp (evE T b x ρ μ) (fun d μ1 => Wp (evE T b y ρ μ1) (fun e μ2 => ∃ i, d.1 = .int i ∧ ∃ j, e.1 = .int j ∧ (smallI i && smallI j) = true ∧ Q (.data (rangeD i (j - i).toNat)) μ2) E) E := by
  show Wp ((evE T b x ρ μ).bind fun d μ1 => (evE T b y ρ μ1).bind fun h μ2 => match d.1, h.1 with
    | .int i, .int j => if smallI i && smallI j then .ok (.data (rangeD i (j - i).toNat)) μ2 else .bad
    | _, _ => .bad) Q E ↔ _
  have : ∀ (d h : D × Nat) (μ2 : Sto), Wp (match d.1, h.1 with
    | .int i, .int j => if smallI i && smallI j then .ok (.data (rangeD i (j - i).toNat)) μ2 else .bad
    | _, _ => (.bad : R Src)) Q E ↔ ∃ i, d.1 = .int i ∧ ∃ j, h.1 = .int j ∧ (smallI i && smallI j) = true ∧ Q (.data (rangeD i (j - i).toNat)) μ2 := by
    intro d h μ2
    obtain ⟨d, f⟩ := d
    obtain ⟨h, f2⟩ := h
    cases d with
    | int i =>
      cases h with
      | int j =>
        show Wp (if (smallI i && smallI j) = true then .ok (.data (rangeD i (j - i).toNat)) μ2 else .bad) Q E ↔ _
        rw [wp_if]
        exact ⟨fun h => ⟨i, rfl, j, rfl, (and_if.mp h).1, (and_if.mp h).2⟩, fun ⟨_, h, _, h', h1, h2⟩ => by cases h; cases h'; exact and_if.mpr ⟨h1, h2⟩⟩
      | _ => exact ⟨fun h => h.elim, fun ⟨_, _, _, h, _⟩ => by cases h⟩
    | _ => exact ⟨fun h => h.elim, fun ⟨_, h, _⟩ => by cases h⟩
  simp only [wp_bind, this]
theorem i_zp : Wp (evIt T b (.zip x y) ρ μ) Q E ↔ Wp (evE T b x ρ μ) (fun d μ1 => Wp (evE T b y ρ μ1) (fun e μ2 => ∃ i, srcL μ2 d.1 = some i ∧ ∃ j, srcL μ2 e.1 = some j ∧ Q (.zip i j) μ2) E) E := by
  show Wp ((evE T b x ρ μ).bind fun d μ1 => (evE T b y ρ μ1).bind fun h μ2 => match srcL μ2 d.1, srcL μ2 h.1 with
    | some x, some y => .ok (.zip x y) μ2
    | _, _ => .bad) Q E ↔ _
  have : ∀ (d h : D × Nat) (μ2 : Sto), Wp (match srcL μ2 d.1, srcL μ2 h.1 with
    | some x, some y => .ok (.zip x y) μ2
    | _, _ => (.bad : R Src)) Q E ↔ ∃ i, srcL μ2 d.1 = some i ∧ ∃ j, srcL μ2 h.1 = some j ∧ Q (.zip i j) μ2 := by
    intro d h μ2
    cases srcL μ2 d.1 <;> cases srcL μ2 h.1 <;> simp [Wp]
  simp only [wp_bind, this]
end
end
end VM.U

set_option Elab.async false
set_option maxRecDepth 10000
set_option autoImplicit false
set_option linter.unusedVariables false
set_option linter.unusedSimpArgs false
set_option linter.unusedSectionVars false
/-! the same, sealed: nothing looks inside by itself -/
namespace VM
open PySem L2
structure Wp {α : Type} (r : R α) (Q : α → Sto → Prop) (E : Exc → Sto → Prop) : Prop where
  out : U.Wp r Q E
structure Ws (r : RS) (N : Ev → Sto → Prop) (Rt : D → Nat → Sto → Prop) (Bk Ct : Ev → Sto → Prop) (E : Exc → Ev → Sto → Prop) : Prop where
  out : U.Ws r N Rt Bk Ct E
theorem wpS {α : Type} (r : R α) (Q : α → Sto → Prop) (E : Exc → Sto → Prop) : Wp r Q E = U.Wp r Q E := propext ⟨fun h => h.out, fun h => ⟨h⟩⟩
theorem wsS (r : RS) (N : Ev → Sto → Prop) (Rt : D → Nat → Sto → Prop) (Bk Ct : Ev → Sto → Prop) (E : Exc → Ev → Sto → Prop) : Ws r N Rt Bk Ct E = U.Ws r N Rt Bk Ct E := propext ⟨fun h => h.out, fun h => ⟨h⟩⟩

section
variable {α β : Type} {Q : α → Sto → Prop} {Q2 : β → Sto → Prop} {E : Exc → Sto → Prop} {μ : Sto} {T : Tb} {b : Nat} {ρ : Ev}
variable {N Bk Ct : Ev → Sto → Prop} {Rt : D → Nat → Sto → Prop} {X : Exc → Ev → Sto → Prop}
theorem wp_ok {a : α} : Wp (.ok a μ) Q E ↔ Q a μ := by
  simp only [wpS, wsS] at *
  exact U.wp_ok 
theorem wp_bad : Wp (.bad : R α) Q E ↔ False := by
  simp only [wpS, wsS] at *
  exact U.wp_bad 
theorem wp_err {x : Exc} : Wp (.err x μ : R α) Q E ↔ E x μ := by
  simp only [wpS, wsS] at *
  exact U.wp_err 
theorem wp_bind {r : R α} {f : α → Sto → R β} : Wp (r.bind f) Q2 E ↔ Wp r (fun a μ => Wp (f a μ) Q2 E) E := by
  simp only [wpS, wsS] at *
  exact U.wp_bind 
theorem wp_mono {r : R α} {Q' : α → Sto → Prop} {E' : Exc → Sto → Prop} (h : Wp r Q E) (k : ∀ a μ, Q a μ → Q' a μ) (j : ∀ x μ, E x μ → E' x μ) : Wp r Q' E' := by
  simp only [wpS, wsS] at *
  exact U.wp_mono h k j
theorem wp_okR {o : Option α} : Wp (okR o μ) Q E ↔ ∃ a, o = some a ∧ Q a μ := by
  simp only [wpS, wsS] at *
  exact U.wp_okR 
theorem wp_if {c : Prop} [Decidable c] {r s : R α} : Wp (if c then r else s) Q E ↔ (c → Wp r Q E) ∧ (¬ c → Wp s Q E) := by
  simp only [wpS, wsS] at *
  exact U.wp_if 
theorem ws_st {r : R α} {f : α → Sto → RS} : Ws (r.st ρ f) N Rt Bk Ct X ↔ Wp r (fun a μ => Ws (f a μ) N Rt Bk Ct X) (fun x μ => X x ρ μ) := by
  simp only [wpS, wsS] at *
  exact U.ws_st 
theorem ws_nx : Ws (.nx ρ μ) N Rt Bk Ct X ↔ N ρ μ := by
  simp only [wpS, wsS] at *
  exact U.ws_nx 
theorem ws_ret {d : D} {f : Nat} : Ws (.ret d f μ) N Rt Bk Ct X ↔ Rt d f μ := by
  simp only [wpS, wsS] at *
  exact U.ws_ret 
theorem ws_cons {s : VM.S} {ss : Ss} : Ws (runSs T b (.cons s ss) ρ μ) N Rt Bk Ct X ↔ Ws (runS T b s ρ μ) (fun ρ1 μ1 => Ws (runSs T b ss ρ1 μ1) N Rt Bk Ct X) Rt Bk Ct X := by
  simp only [wpS, wsS] at *
  exact U.ws_cons 
theorem ws_seq {s : VM.S} {ss : Ss} (M : Ev → Sto → Prop) (h1 : Ws (runS T b s ρ μ) M Rt Bk Ct X) (h2 : ∀ ρ1 μ1, M ρ1 μ1 → Ws (runSs T b ss ρ1 μ1) N Rt Bk Ct X) : Ws (runSs T b (.cons s ss) ρ μ) N Rt Bk Ct X := by
  simp only [wpS, wsS] at *
  exact U.ws_seq M h1 h2
theorem ws_nil : Ws (runSs T b .nil ρ μ) N Rt Bk Ct X ↔ N ρ μ := by
  simp only [wpS, wsS] at *
  exact U.ws_nil 
theorem ws_ife {t : VM.E} {x y : Ss} : Ws (runS T b (.ife t x y) ρ μ) N Rt Bk Ct X ↔ Wp (evE T b t ρ μ) (fun d μ1 => ∃ k, truD μ1 d.1 = some k ∧ (k = true → Ws (runSs T b x ρ μ1) N Rt Bk Ct X) ∧ (k = false → Ws (runSs T b y ρ μ1) N Rt Bk Ct X)) (fun x μ => X x ρ μ) := by
  simp only [wpS, wsS] at *
  exact U.ws_ife 
theorem ws_mono {r : RS} {N' Bk' Ct' : Ev → Sto → Prop} {Rt' : D → Nat → Sto → Prop} {X' : Exc → Ev → Sto → Prop} (h : Ws r N Rt Bk Ct X) (h1 : ∀ ρ μ, N ρ μ → N' ρ μ) (h2 : ∀ d f μ, Rt d f μ → Rt' d f μ) (h3 : ∀ ρ μ, Bk ρ μ → Bk' ρ μ) (h4 : ∀ ρ μ, Ct ρ μ → Ct' ρ μ) (h5 : ∀ x ρ μ, X x ρ μ → X' x ρ μ) : Ws r N' Rt' Bk' Ct' X' := by
  simp only [wpS, wsS] at *
  exact U.ws_mono h h1 h2 h3 h4 h5
/-! statements -/
theorem ws_set {i : Nat} {e : VM.E} : Ws (runS T b (.set (.name i) e) ρ μ) N Rt Bk Ct X ↔ Wp (evE T b e ρ μ) (fun d μ1 => N (ρ.set i (some d.1)) μ1) (fun x μ => X x ρ μ) := by
  simp only [wpS, wsS] at *
  exact U.ws_set 
theorem ws_ret_ {e : VM.E} : Ws (runS T b (.ret e) ρ μ) N Rt Bk Ct X ↔ Wp (evE T b e ρ μ) (fun d μ1 => Rt d.1 d.2 μ1) (fun x μ => X x ρ μ) := by
  simp only [wpS, wsS] at *
  exact U.ws_ret_ 
theorem ws_expr {e : VM.E} : Ws (runS T b (.expr e) ρ μ) N Rt Bk Ct X ↔ Wp (evE T b e ρ μ) (fun d μ1 => N ρ μ1) (fun x μ => X x ρ μ) := by
  simp only [wpS, wsS] at *
  exact U.ws_expr 
theorem ws_retn : Ws (runS T b .retn ρ μ) N Rt Bk Ct X ↔ Rt .non 0 μ := by
  simp only [wpS, wsS] at *
  exact U.ws_retn 
theorem ws_pass : Ws (runS T b .pass ρ μ) N Rt Bk Ct X ↔ N ρ μ := by
  simp only [wpS, wsS] at *
  exact U.ws_pass 
theorem ws_brk : Ws (runS T b .brk ρ μ) N Rt Bk Ct X ↔ Bk ρ μ := by
  simp only [wpS, wsS] at *
  exact U.ws_brk 
theorem ws_cnt : Ws (runS T b .cnt ρ μ) N Rt Bk Ct X ↔ Ct ρ μ := by
  simp only [wpS, wsS] at *
  exact U.ws_cnt 
theorem ws_sub {o i e : VM.E} : Ws (runS T b (.set (.sub o i) e) ρ μ) N Rt Bk Ct X ↔ Wp (evE T b e ρ μ) (fun d μ1 => Wp (evE T b o ρ μ1) (fun od μ2 => Wp (evE T b i ρ μ2) (fun id μ3 => ∃ μ4, setD b od.1 id.1 d.1 μ3 = some μ4 ∧ N ρ μ4) (fun x μ => X x ρ μ)) (fun x μ => X x ρ μ)) (fun x μ => X x ρ μ) := by
  simp only [wpS, wsS] at *
  exact U.ws_sub 
/-! expressions -/
theorem x_var {i : Nat} {d : D} {Q : D × Nat → Sto → Prop} (h : ρ[i]? = some (some d)) : Wp (evE T b (.var i) ρ μ) Q E ↔ Q (d, 0) μ := by
  simp only [wpS, wsS] at *
  exact U.x_var h
section
variable {Q : D × Nat → Sto → Prop} {x y z : VM.E} {es : VM.Es}
theorem x_non : Wp (evE T b .non ρ μ) Q E ↔ Q (.non, 0) μ := by
  simp only [wpS, wsS] at *
  exact U.x_non 
theorem x_npart : Wp (evE T b .npart ρ μ) Q E ↔ Q (.non, 0) μ := by
  simp only [wpS, wsS] at *
  exact U.x_npart 
theorem x_bl {k : Bool} : Wp (evE T b (.bl k) ρ μ) Q E ↔ Q (.bl k, 0) μ := by
  simp only [wpS, wsS] at *
  exact U.x_bl 
theorem x_int {i : Int} : Wp (evE T b (.int i) ρ μ) Q E ↔ Q (.int i, 0) μ := by
  simp only [wpS, wsS] at *
  exact U.x_int 
theorem x_str {s : Str} : Wp (evE T b (.str s) ρ μ) Q E ↔ Q (.str s, 0) μ := by
  simp only [wpS, wsS] at *
  exact U.x_str 
theorem x_glob {g : Str} : Wp (evE T b (.glob g) ρ μ) Q E ↔ ∃ d, T.glob g = some d ∧ Q (d, 0) μ := by
  simp only [wpS, wsS] at *
  exact U.x_glob 
theorem x_bin {op : Operator} : Wp (evE T b (.bin op x y) ρ μ) Q E ↔ Wp (evE T b x ρ μ) (fun d μ1 => Wp (evE T b y ρ μ1) (fun e μ2 => Wp (binD op d.1 e.1 μ2) Q E) E) E := by
  simp only [wpS, wsS] at *
  exact U.x_bin 
theorem x_neg : Wp (evE T b (.neg x) ρ μ) Q E ↔ Wp (evE T b x ρ μ) (fun d μ1 => Wp (negD d.1 μ1) Q E) E := by
  simp only [wpS, wsS] at *
  exact U.x_neg 
theorem wp_sh {o : Option D} : Wp (sh o μ) Q E ↔ ∃ d, o = some d ∧ Q (d, 0) μ := by
  simp only [wpS, wsS] at *
  exact U.wp_sh 
theorem wp_shb {o : Option Bool} {f : Bool → Bool} : Wp (sh (o.map fun k => D.bl (f k)) μ) Q E ↔ ∃ k, o = some k ∧ Q (.bl (f k), 0) μ := by
  simp only [wpS, wsS] at *
  exact U.wp_shb 
theorem wp_sh0 {o : Option Bool} : Wp (sh (o.map D.bl) μ) Q E ↔ ∃ k, o = some k ∧ Q (.bl k, 0) μ := by
  simp only [wpS, wsS] at *
  exact U.wp_sh0 
theorem x_not : Wp (evE T b (.not x) ρ μ) Q E ↔ Wp (evE T b x ρ μ) (fun d μ1 => ∃ k, truD μ1 d.1 = some k ∧ Q (.bl !k, 0) μ1) E := by
  simp only [wpS, wsS] at *
  exact U.x_not 
theorem x_and : Wp (evE T b (.and x y) ρ μ) Q E ↔ Wp (evE T b x ρ μ) (fun d μ1 => ∃ k, truD μ1 d.1 = some k ∧ (k = true → Wp (evE T b y ρ μ1) Q E) ∧ (k = false → Q (d.1, 0) μ1)) E := by
  simp only [wpS, wsS] at *
  exact U.x_and 
theorem x_or : Wp (evE T b (.or x y) ρ μ) Q E ↔ Wp (evE T b x ρ μ) (fun d μ1 => ∃ k, truD μ1 d.1 = some k ∧ (k = false → Wp (evE T b y ρ μ1) Q E) ∧ (k = true → Q (d.1, 0) μ1)) E := by
  simp only [wpS, wsS] at *
  exact U.x_or 
theorem x_cmp {op : CmpOp} : Wp (evE T b (.cmp op x y) ρ μ) Q E ↔ Wp (evE T b x ρ μ) (fun d μ1 => Wp (evE T b y ρ μ1) (fun e μ2 => ∃ k, cmpD op d.1 e.1 μ2 = some k ∧ Q (.bl k, 0) μ2) E) E := by
  simp only [wpS, wsS] at *
  exact U.x_cmp 
theorem x_cmp2 {op op2 : CmpOp} : Wp (evE T b (.cmp2 op op2 x y z) ρ μ) Q E ↔ Wp (evE T b x ρ μ) (fun d μ1 => Wp (evE T b y ρ μ1) (fun e μ2 => ∃ k, cmpD op d.1 e.1 μ2 = some k ∧ (k = true → Wp (evE T b z ρ μ2) (fun g μ3 => ∃ k, cmpD op2 e.1 g.1 μ3 = some k ∧ Q (.bl k, 0) μ3) E) ∧ (k = false → Q (.bl false, 0) μ2)) E) E := by
  simp only [wpS, wsS] at *
  exact U.x_cmp2 
theorem x_ife {t : VM.E} : Wp (evE T b (.ife t x y) ρ μ) Q E ↔ Wp (evE T b t ρ μ) (fun d μ1 => ∃ k, truD μ1 d.1 = some k ∧ (k = true → Wp (evE T b x ρ μ1) Q E) ∧ (k = false → Wp (evE T b y ρ μ1) Q E)) E := by
  simp only [wpS, wsS] at *
  exact U.x_ife 
theorem x_lst : Wp (evE T b (.lst es) ρ μ) Q E ↔ Wp (evEs T b es ρ μ) (fun ds μ1 => ds.length ≤ sizeLine ∧ Q (.lst ds, 1) μ1) E := by
  simp only [wpS, wsS] at *
  exact U.x_lst 
theorem x_tup : Wp (evE T b (.tup es) ρ μ) Q E ↔ Wp (evEs T b es ρ μ) (fun ds μ1 => ds.length ≤ sizeLine ∧ Q (.tup ds, 0) μ1) E := by
  simp only [wpS, wsS] at *
  exact U.x_tup 
theorem x_ix : Wp (evE T b (.ix x y) ρ μ) Q E ↔ Wp (evE T b x ρ μ) (fun d μ1 => Wp (evE T b y ρ μ1) (fun e μ2 => ∃ r, ixD d.1 e.1 μ2 = some r ∧ Q (r, 0) μ2) E) E := by
  simp only [wpS, wsS] at *
  exact U.x_ix 
theorem x_call {f : Str} : Wp (evE T b (.call f es) ρ μ) Q E ↔ Wp (evEs T b es ρ μ) (fun ds μ1 => Wp (T.call f b ds μ1) Q E) E := by
  simp only [wpS, wsS] at *
  exact U.x_call 
theorem x_bi {f : Str} : Wp (evE T b (.bi f es) ρ μ) Q E ↔ Wp (evEs T b es ρ μ) (fun ds μ1 => Wp (biD f ds μ1) Q E) E := by
  simp only [wpS, wsS] at *
  exact U.x_bi 
theorem x_thaw : Wp (evE T b (.thaw x) ρ μ) Q E ↔ Wp (evE T b x ρ μ) (fun d μ1 => ∃ xs f, d = (.lst xs, f + 1) ∧ Q (.cell μ1.length, 0) (μ1 ++ [.lst xs])) E := by
  simp only [wpS, wsS] at *
  exact U.x_thaw 
end
theorem ws_nilE {Q : List D → Sto → Prop} : Wp (evEs T b .nil ρ μ) Q E ↔ Q [] μ := by
  simp only [wpS, wsS] at *
  exact U.ws_nilE 
theorem ws_consE {Q : List D → Sto → Prop} {x : VM.E} {es : VM.Es} : Wp (evEs T b (.cons x es) ρ μ) Q E ↔ Wp (evE T b x ρ μ) (fun d μ1 => Wp (evEs T b es ρ μ1) (fun ds μ2 => Q (d.1 :: ds) μ2) E) E := by
  simp only [wpS, wsS] at *
  exact U.ws_consE 
/-! calls -/
theorem wp_run {p s : Nat} {body : Ss} {ds : List D} {Q : D × Nat → Sto → Prop} (h : ds.length = p) : Wp (runFn T ⟨p, s, false, body⟩ b ds μ) Q E ↔
    Ws (runSs T μ.length body (ds.map some ++ List.replicate (s - p) none) μ) (fun _ μ' => Q (.non, 0) (μ'.take μ.length)) (fun d f μ' => ∃ x, frzTop μ.length d f μ' = some x ∧ Q x (μ'.take μ.length)) (fun _ _ => False) (fun _ _ => False) (fun x _ μ' => E x (μ'.take μ.length)) := by
  simp only [wpS, wsS] at *
  exact U.wp_run h
end


section
variable {E : Exc → Sto → Prop} {μ : Sto} {T : Tb} {b : Nat} {ρ : Ev} {Q : D × Nat → Sto → Prop}
theorem y_var {i : Nat} : Wp (evE T b (.var i) ρ μ) Q E ↔ ∃ d, ρ[i]? = some (some d) ∧ Q (d, 0) μ := by
  simp only [wpS, wsS] at *
  exact U.y_var 
theorem and_if {p q : Prop} : ((p → q) ∧ (¬ p → False)) ↔ p ∧ q := U.and_if 
section
variable {i j : Int}
theorem n_add : Wp (binD .Add (.int i) (.int j) μ) Q E ↔ Q (.int (i + j), 0) μ := by
  simp only [wpS, wsS] at *
  exact U.n_add 
theorem n_sub : Wp (binD .Sub (.int i) (.int j) μ) Q E ↔ Q (.int (i - j), 0) μ := by
  simp only [wpS, wsS] at *
  exact U.n_sub 
theorem n_mul : Wp (binD .Mult (.int i) (.int j) μ) Q E ↔ i.natAbs.log2 + j.natAbs.log2 < 130000000 ∧ Q (.int (i * j), 0) μ := by
  simp only [wpS, wsS] at *
  exact U.n_mul 
theorem n_mod : Wp (binD .Mod (.int i) (.int j) μ) Q E ↔ j ≠ 0 ∧ Q (.int (i.fmod j), 0) μ := by
  simp only [wpS, wsS] at *
  exact U.n_mod 
theorem n_fdiv : Wp (binD .FloorDiv (.int i) (.int j) μ) Q E ↔ j ≠ 0 ∧ Q (.int (i.fdiv j), 0) μ := by
  simp only [wpS, wsS] at *
  exact U.n_fdiv 
theorem n_pow : Wp (binD .Pow (.int i) (.int j) μ) Q E ↔ (0 ≤ j ∧ j ≤ 1000000 ∧ i.natAbs < 2 ^ 64) ∧ Q (.int (i ^ j.toNat), 0) μ := by
  simp only [wpS, wsS] at *
  exact U.n_pow 
theorem n_neg : Wp (negD (.int i) μ) Q E ↔ Q (.int (-i), 0) μ := by
  simp only [wpS, wsS] at *
  exact U.n_neg 
theorem c_lt : cmpD .Lt (.int i) (.int j) μ = some (decide (i < j)) := U.c_lt 
theorem c_le : cmpD .LtE (.int i) (.int j) μ = some (decide (i ≤ j)) := U.c_le 
theorem c_gt : cmpD .Gt (.int i) (.int j) μ = some (decide (i > j)) := U.c_gt 
theorem c_ge : cmpD .GtE (.int i) (.int j) μ = some (decide (i ≥ j)) := U.c_ge 
theorem shaped_int : SeqAt.shaped (.int i) = true := U.shaped_int 
theorem eqv_int : PyData.eqv (.int i) (.int j) = decide (i = j) := U.eqv_int 
theorem c_eq : cmpD .Eq (.int i) (.int j) μ = some (decide (i = j)) := U.c_eq 
theorem c_ne : cmpD .NotEq (.int i) (.int j) μ = some (decide (i ≠ j)) := U.c_ne 
end
theorem t_bl {k : Bool} : truD μ (.bl k) = some k := U.t_bl 
theorem t_int {i : Int} : truD μ (.int i) = some (i != 0) := U.t_int 
theorem f_int {n f : Nat} {i : Int} : frzTop n (.int i) f μ = some (.int i, 0) := U.f_int 
theorem f_bl {n f : Nat} {k : Bool} : frzTop n (.bl k) f μ = some (.bl k, 0) := U.f_bl 
theorem f_non {n f : Nat} : frzTop n .non f μ = some (.non, 0) := U.f_non 
theorem f_str {n f : Nat} {s : Str} : frzTop n (.str s) f μ = some (.str s, 0) := U.f_str 
theorem ix_cell {l : Nat} {xs : List D} {i : Int} (h : μ[l]? = some (.lst xs)) : ixD (.cell l) (.int i) μ = atI xs i := U.ix_cell h
theorem ix_lst {xs : List D} {i : Int} : ixD (.lst xs) (.int i) μ = atI xs i := U.ix_lst 
theorem ix_tup {xs : List D} {i : Int} : ixD (.tup xs) (.int i) μ = atI xs i := U.ix_tup 
theorem ix_scr {ns : List Int} {i : Int} : ixD (.scr ns) (.int i) μ = atI (ns.map .int) i := U.ix_scr 
theorem atN {α : Type} {xs : List α} {i : Int} (h0 : 0 ≤ i) (h1 : i < xs.length) : atI xs i = xs[i.toNat]? := U.atN h0 h1
theorem at0 {α : Type} {x : α} {xs : List α} : atI (x :: xs) 0 = some x := U.at0 
theorem at1 {α : Type} {x y : α} {xs : List α} : atI (x :: y :: xs) 1 = some y := U.at1 
theorem at2 {α : Type} {x y z : α} {xs : List α} : atI (x :: y :: z :: xs) 2 = some z := U.at2 
theorem ixN_ok {n : Nat} {i : Int} (h0 : 0 ≤ i) (h1 : i < n) : ixN n i = some i.toNat := U.ixN_ok h0 h1
theorem set_cell {l j : Nat} {xs : List D} {i : Int} {v : D} (h : μ[l]? = some (.lst xs)) (hj : ixN xs.length i = some j) (hp : mayPut b l v = true) : setD b (.cell l) (.int i) v μ = some (μ.set l (.lst (xs.set j v))) := U.set_cell h hj hp
theorem put_int {l : Nat} {i : Int} : mayPut b l (.int i) = true := U.put_int 
end


section
variable {E : Exc → Sto → Prop} {μ : Sto} {T : Tb} {b : Nat} {ρ : Ev} {N Bk Ct : Ev → Sto → Prop} {Rt : D → Nat → Sto → Prop} {X : Exc → Ev → Sto → Prop}
theorem wp_noErr {α : Type} {r : R α} {Q : α → Sto → Prop} : Wp (noErr r) Q E ↔ Wp r Q NoX := by
  simp only [wpS, wsS] at *
  exact U.wp_noErr 
theorem x_lc {elt c : VM.E} {tg : VM.Tg} {it : VM.It} {own : List Nat} {Q : D × Nat → Sto → Prop} : Wp (evE T b (.lc elt tg it c own) ρ μ) Q E ↔ Wp (evIt T b it ρ μ) (fun src μ1 => Wp (lcLoop (lcF T b elt tg c own ρ) src (src.size μ1 + 1) 0 [] μ1) (fun xs μ2 => Q (.lst xs, 1) μ2) NoX) E := by
  simp only [wpS, wsS] at *
  exact U.x_lc 
theorem lc_name {elt c : VM.E} {i : Nat} {own : List Nat} {x : D} {Q : Option D → Sto → Prop} : Wp (lcF T b elt (.name i) c own ρ x μ) Q E ↔ Wp (evE T b c ((wipeD ρ own).set i (some x)) μ) (fun k μ1 => ∃ t, truD μ1 k.1 = some t ∧ (t = true → Wp (evE T b elt ((wipeD ρ own).set i (some x)) μ1) (fun y μ2 => Q (some y.1) μ2) E) ∧ (t = false → Q none μ1)) E := by
  simp only [wpS, wsS] at *
  exact U.lc_name 
theorem lc_two {elt c : VM.E} {i j : Nat} {own : List Nat} {x y : D} {Q : Option D → Sto → Prop} : Wp (lcF T b elt (.tup (.cons (.name i) (.cons (.name j) .nil))) c own ρ (.tup [x, y]) μ) Q E ↔ Wp (evE T b c (((wipeD ρ own).set i (some x)).set j (some y)) μ) (fun k μ1 => ∃ t, truD μ1 k.1 = some t ∧ (t = true → Wp (evE T b elt (((wipeD ρ own).set i (some x)).set j (some y)) μ1) (fun y μ2 => Q (some y.1) μ2) E) ∧ (t = false → Q none μ1)) E := by
  simp only [wpS, wsS] at *
  exact U.lc_two 
/-- a comprehension's loop, by an invariant; xs what is walked -/
theorem wp_lcLoop {F : D → Sto → R (Option D)} {src : Src} {xs : List D} {Q : List D → Sto → Prop} (I : Nat → List D → Sto → Prop) (hsrc : ∀ i acc μ', I i acc μ' → src.at μ' i = nxO xs[i]?) (hsz : src.size μ = xs.length) (h0 : I 0 [] μ)
    (hs : ∀ i x acc μ', xs[i]? = some x → I i acc μ' → Wp (F x μ') (fun y μ2 => match y with | none => I (i + 1) acc μ2 | some d => acc.length < sizeLine ∧ I (i + 1) (acc ++ [d]) μ2) E) (he : ∀ acc μ', I xs.length acc μ' → Q acc μ') :
    Wp (lcLoop F src (src.size μ + 1) 0 [] μ) Q E := by
  simp only [wpS, wsS] at *
  exact U.wp_lcLoop I hsrc hsz h0 hs he
/-- nothing is written on the way -/
theorem wp_lcPure {F : D → Sto → R (Option D)} {src : Src} {xs : List D} {Q : List D → Sto → Prop} (g : D → Option D) (hsrc : ∀ i, src.at μ i = nxO xs[i]?) (hsz : src.size μ = xs.length) (hlen : xs.length ≤ sizeLine)
    (hs : ∀ x ∈ xs, Wp (F x μ) (fun y μ2 => μ2 = μ ∧ y = g x) E) (he : Q (xs.filterMap g) μ) : Wp (lcLoop F src (src.size μ + 1) 0 [] μ) Q E := by
  simp only [wpS, wsS] at *
  exact U.wp_lcPure g hsrc hsz hlen hs he
theorem src_data {xs : List D} (i : Nat) : (Src.data xs).at μ i = nxO xs[i]? := U.src_data i
theorem src_cell {l : Nat} {xs : List D} (h : μ[l]? = some (.lst xs)) (i : Nat) : (Src.cell l).at μ i = nxO xs[i]? := U.src_cell h i
theorem size_cell {l : Nat} {xs : List D} (h : μ[l]? = some (.lst xs)) : (Src.cell l).size μ = xs.length := U.size_cell h
theorem src_zip {a c : Src} {xs ys : List D} {i : Nat} (h1 : a.at μ i = nxO xs[i]?) (h2 : c.at μ i = nxO ys[i]?) : (Src.zip a c).at μ i = nxO (xs.zipWith (fun x y => D.tup [x, y]) ys)[i]? := U.src_zip h1 h2
/-- a for loop over what is walked, by an invariant -/
theorem ws_for {i : Nat} {it : VM.It} {body : Ss} (h : Wp (evIt T b it ρ μ) (fun src μ1 => ∃ (xs : List D) (I : Nat → Ev → Sto → Prop), (∀ k ρ' μ', I k ρ' μ' → src.at μ' k = nxO xs[k]?) ∧ src.size μ1 = xs.length ∧ I 0 ρ μ1 ∧
      (∀ k x ρ' μ', xs[k]? = some x → I k ρ' μ' → Ws (runSs T b body (ρ'.set i (some x)) μ') (I (k + 1)) Rt N (I (k + 1)) X) ∧ ∀ ρ' μ', I xs.length ρ' μ' → N ρ' μ') (fun x μ => X x ρ μ)) :
    Ws (runS T b (.for_ (.name i) it body) ρ μ) N Rt Bk Ct X := by
  simp only [wpS, wsS] at *
  exact U.ws_for h
/-! what is walked -/
section
variable {Q : Src → Sto → Prop} {x y : VM.E}
theorem i_exD : Wp (evIt T b (.ex x) ρ μ) Q E ↔ Wp (evE T b x ρ μ) (fun d μ1 => ∃ s, srcIt μ1 d.1 = some s ∧ Q s μ1) E := by
  simp only [wpS, wsS] at *
  exact U.i_exD 
theorem i_r1 : Wp (evIt T b (.rng1 x) ρ μ) Q E ↔ Wp (evE T b x ρ μ) (fun d μ1 => ∃ j, d.1 = .int j ∧ smallI j = true ∧ Q (.data (rangeD 0 j.toNat)) μ1) E := by
  simp only [wpS, wsS] at *
  exact U.i_r1 
theorem i_r2 : Wp (evIt T b (.rng2 x y) ρ μ) Q E ↔ Wp (evE T b x ρ μ) (fun d μ1 => Wp (evE T b y ρ μ1) (fun e μ2 => ∃ i, d.1 = .int i ∧ ∃ j, e.1 = .int j ∧ (smallI i && smallI j) = true ∧ Q (.data (rangeD i (j - i).toNat)) μ2) E) E := by
  simp only [wpS, wsS] at *
  exact U.i_r2 
theorem i_zp : Wp (evIt T b (.zip x y) ρ μ) Q E ↔ Wp (evE T b x ρ μ) (fun d μ1 => Wp (evE T b y ρ μ1) (fun e μ2 => ∃ i, srcL μ2 d.1 = some i ∧ ∃ j, srcL μ2 e.1 = some j ∧ Q (.zip i j) μ2) E) E := by
  simp only [wpS, wsS] at *
  exact U.i_zp 
end
end

end VM

set_option Elab.async false
set_option maxRecDepth 10000
set_option autoImplicit false
set_option linter.unusedVariables false
set_option linter.unusedSimpArgs false
/-! reckoning on the machine: what came later -/
namespace VM
open PySem L2
section
variable {E : Exc → Sto → Prop} {μ : Sto} {T : Tb} {b : Nat} {ρ : Ev} {N Bk Ct : Ev → Sto → Prop} {Rt : D → Nat → Sto → Prop} {X : Exc → Ev → Sto → Prop}
theorem x_rev {x : VM.E} {Q : D × Nat → Sto → Prop} : Wp (evE T b (.rev x) ρ μ) Q E ↔ Wp (evE T b x ρ μ) (fun d μ1 => ∃ xs, itemsL μ1 d.1 = some xs ∧ Q (.lst xs.reverse, 1) μ1) E := by
  show Wp ((evE T b x ρ μ).bind fun d μ1 => match itemsL μ1 d.1 with | some xs => .ok (.lst xs.reverse, 1) μ1 | none => .bad) Q E ↔ _
  rw [wp_bind]
  have : ∀ (d : D × Nat) (μ1 : Sto), Wp (match itemsL μ1 d.1 with | some xs => .ok (.lst xs.reverse, 1) μ1 | none => (.bad : R (D × Nat))) Q E ↔ ∃ xs, itemsL μ1 d.1 = some xs ∧ Q (.lst xs.reverse, 1) μ1 := by
    intro d μ1
    cases itemsL μ1 d.1 with
    | none => exact ⟨fun h => (wp_bad.mp h).elim, fun ⟨_, h, _⟩ => by cases h⟩
    | some xs => exact ⟨fun h => ⟨xs, rfl, wp_ok.mp h⟩, fun ⟨_, h, q⟩ => by cases h; exact wp_ok.mpr q⟩
  simp only [this]
theorem x_thawn {k : Nat} {x : VM.E} {Q : D × Nat → Sto → Prop} : Wp (evE T b (.thawn k x) ρ μ) Q E ↔ Wp (evE T b x ρ μ) (fun d μ1 => k ≤ d.2 ∧ Q ((thawD 9 k d.1 μ1).1, 0) (thawD 9 k d.1 μ1).2) E := by
  show Wp ((evE T b x ρ μ).bind fun d μ1 => if k ≤ d.2 then .ok ((thawD 9 k d.1 μ1).1, 0) (thawD 9 k d.1 μ1).2 else .bad) Q E ↔ _
  simp only [wp_bind, wp_if, wp_ok, wp_bad, and_if]
theorem x_lcd {k : Nat} {elt c : VM.E} {tg : VM.Tg} {it : VM.It} {own : List Nat} {Q : D × Nat → Sto → Prop} : Wp (evE T b (.lcd k elt tg it c own) ρ μ) Q E ↔ Wp (evIt T b it ρ μ) (fun src μ1 => Wp (lcLoop (lcFk T b k elt tg c own ρ) src (src.size μ1 + 1) 0 [] μ1) (fun xs μ2 => Q (.lst xs, k + 1) μ2) NoX) E := by
  rw [evE_lcd]
  simp only [wp_bind, wp_noErr, wp_ok]
theorem lcd_name {k : Nat} {elt c : VM.E} {i : Nat} {own : List Nat} {x : D} {Q : Option D → Sto → Prop} : Wp (lcFk T b k elt (.name i) c own ρ x μ) Q E ↔ Wp (evE T b c ((wipeD ρ own).set i (some x)) μ) (fun d μ1 => ∃ t, truD μ1 d.1 = some t ∧ (t = true → Wp (evE T b elt ((wipeD ρ own).set i (some x)) μ1) (fun y μ2 => k ≤ y.2 ∧ Q (some y.1) μ2) E) ∧ (t = false → Q none μ1)) E := by
  show Wp ((evE T b c ((wipeD ρ own).set i (some x)) μ).bind fun d μ1 => match truD μ1 d.1 with
    | some true => (evE T b elt ((wipeD ρ own).set i (some x)) μ1).bind fun y μ2 => if k ≤ y.2 then .ok (some y.1) μ2 else .bad
    | some false => .ok none μ1
    | none => .bad) Q E ↔ _
  rw [wp_bind]
  have : ∀ (d : D × Nat) (μ1 : Sto), Wp (match truD μ1 d.1 with
    | some true => (evE T b elt ((wipeD ρ own).set i (some x)) μ1).bind fun y μ2 => if k ≤ y.2 then .ok (some y.1) μ2 else .bad
    | some false => .ok none μ1
    | none => .bad) Q E ↔ ∃ t, truD μ1 d.1 = some t ∧ (t = true → Wp (evE T b elt ((wipeD ρ own).set i (some x)) μ1) (fun y μ2 => k ≤ y.2 ∧ Q (some y.1) μ2) E) ∧ (t = false → Q none μ1) := by
    intro d μ1
    cases truD μ1 d.1 with
    | none => exact ⟨fun h => (wp_bad.mp h).elim, fun ⟨_, h, _⟩ => by cases h⟩
    | some t =>
      cases t with
      | true =>
        simp only [wp_bind, wp_if, wp_ok, wp_bad, and_if]
        exact ⟨fun h => ⟨true, rfl, fun _ => h, fun z => by cases z⟩, fun ⟨_, h, h1, _⟩ => by cases h; exact h1 rfl⟩
      | false => exact ⟨fun h => ⟨false, rfl, fun z => (by cases z), fun _ => wp_ok.mp h⟩, fun ⟨_, h, _, h1⟩ => by cases h; exact wp_ok.mpr (h1 rfl)⟩
  simp only [this]
theorem ws_raise {c : Str} : Ws (runS T b (.raise_ c) ρ μ) N Rt Bk Ct X ↔ X ⟨c, none⟩ ρ μ := by
  rw [wsS]; exact Iff.rfl
theorem ws_mono' {r : RS} {N' Bk' Ct' : Ev → Sto → Prop} {Rt' : D → Nat → Sto → Prop} {X' : Exc → Ev → Sto → Prop} (h : Ws r N Rt Bk Ct X) (h1 : ∀ ρ μ, N ρ μ → N' ρ μ) (h2 : ∀ d f μ, Rt d f μ → Rt' d f μ) (h3 : ∀ ρ μ, Bk ρ μ → Bk' ρ μ) (h4 : ∀ ρ μ, Ct ρ μ → Ct' ρ μ) (h5 : ∀ x ρ μ, X x ρ μ → X' x ρ μ) : Ws r N' Rt' Bk' Ct' X' := by
  rw [wsS] at *
  exact U.ws_mono h h1 h2 h3 h4 h5
theorem ws_try {x : Ss} {i j : Nat} : Ws (runS T b (.try_ x i j) ρ μ) N Rt Bk Ct X ↔ Ws (runSs T b x ρ μ) N Rt Bk Ct (fun e ρ1 μ1 => (e.cls ∈ excNames ∧ e.val = none ∧ j < ρ1.length) ∧ N ((ρ1.set i (some (.str (e.cls ++ "+")))).set j none) μ1) := by
  rw [wsS, wsS]
  show U.Ws (match runSs T b x ρ μ with
    | .err e ρ1 μ1 => if excNames.contains e.cls && e.val.isNone && decide (j < ρ1.length) then .nx ((ρ1.set i (some (.str (e.cls ++ "+")))).set j none) μ1 else .bad
    | r => r) N Rt Bk Ct X ↔ _
  cases runSs T b x ρ μ with
  | err e ρ1 μ1 =>
    show U.Ws (if excNames.contains e.cls && e.val.isNone && decide (j < ρ1.length) then .nx ((ρ1.set i (some (.str (e.cls ++ "+")))).set j none) μ1 else .bad) N Rt Bk Ct X ↔ (e.cls ∈ excNames ∧ e.val = none ∧ j < ρ1.length) ∧ N ((ρ1.set i (some (.str (e.cls ++ "+")))).set j none) μ1
    by_cases h : (excNames.contains e.cls && e.val.isNone && decide (j < ρ1.length)) = true
    · rw [if_pos h]
      simp only [Bool.and_eq_true, decide_eq_true_eq, Option.isNone_iff_eq_none, List.contains_iff_mem] at h
      exact ⟨fun q => ⟨⟨h.1.1, h.1.2, h.2⟩, q⟩, fun q => q.2⟩
    · rw [if_neg h]
      simp only [Bool.and_eq_true, decide_eq_true_eq, Option.isNone_iff_eq_none, List.contains_iff_mem] at h
      exact ⟨fun q => q.elim, fun q => absurd ⟨⟨q.1.1, q.1.2.1⟩, q.1.2.2⟩ h⟩
  | _ => exact Iff.rfl
theorem c_is {d : D} (h : fnD d = false) : cmpD .Is d .non μ = some (nonD d) := by
  show (if nonD .non && !fnD d then some (nonD d) else none) = _
  rw [h]; rfl
theorem c_isnot {d : D} (h : fnD d = false) : cmpD .IsNot d .non μ = some (!nonD d) := by
  show (if nonD .non && !fnD d then some (!nonD d) else none) = _
  rw [h]; rfl
end
end VM

set_option Elab.async false
set_option maxRecDepth 10000
set_option autoImplicit false
set_option linter.unusedVariables false
set_option linter.unusedSimpArgs false
/-! reckoning: while, functions out of lists, more of lists -/
namespace VM
open PySem L2
section
variable {E : Exc → Sto → Prop} {μ : Sto} {T : Tb} {b : Nat} {ρ : Ev} {N Bk Ct : Ev → Sto → Prop} {Rt : D → Nat → Sto → Prop} {X : Exc → Ev → Sto → Prop}
theorem whLoop_mono {test : Ev → Sto → R Bool} {body : Ev → Sto → RS} : ∀ {n m : Nat} {ρ : Ev} {μ : Sto}, n ≤ m → whLoop test body n ρ μ ≠ .bad → whLoop test body m ρ μ = whLoop test body n ρ μ
  | 0, _, _, _, _, h => absurd rfl h
  | n + 1, 0, _, _, hm, _ => by omega
  | n + 1, m + 1, ρ, μ, hm, h => by
    have e : ∀ k, whLoop test body (k + 1) ρ μ = (test ρ μ).st ρ fun t μ1 => match t with
      | false => .nx ρ μ1
      | true => match body ρ μ1 with
        | .nx ρ2 μ2 => whLoop test body k ρ2 μ2
        | .ct ρ2 μ2 => whLoop test body k ρ2 μ2
        | .brk ρ2 μ2 => .nx ρ2 μ2
        | r => r := fun k => rfl
    rw [e] at h ⊢
    rw [e]
    cases q : test ρ μ with
    | bad => rfl
    | err x μ1 => rfl
    | ok t μ1 =>
      rw [q] at h
      cases t with
      | false => rfl
      | true =>
        have h : (match body ρ μ1 with
          | .nx ρ2 μ2 => whLoop test body n ρ2 μ2
          | .ct ρ2 μ2 => whLoop test body n ρ2 μ2
          | .brk ρ2 μ2 => .nx ρ2 μ2
          | r => r) ≠ RS.bad := h
        show (match body ρ μ1 with
          | .nx ρ2 μ2 => whLoop test body m ρ2 μ2
          | .ct ρ2 μ2 => whLoop test body m ρ2 μ2
          | .brk ρ2 μ2 => .nx ρ2 μ2
          | r => r) = (match body ρ μ1 with
          | .nx ρ2 μ2 => whLoop test body n ρ2 μ2
          | .ct ρ2 μ2 => whLoop test body n ρ2 μ2
          | .brk ρ2 μ2 => .nx ρ2 μ2
          | r => r)
        cases q2 : body ρ μ1 with
        | nx ρ2 μ2 => rw [q2] at h; exact whLoop_mono (by omega) h
        | ct ρ2 μ2 => rw [q2] at h; exact whLoop_mono (by omega) h
        | _ => rfl
theorem wlOf_at {f : Nat → RS} (hm : ∀ n m, n ≤ m → f n ≠ .bad → f m = f n) {n : Nat} (h : f n ≠ .bad) : wlOf f = f n := by
  have hb : wlOf f ≠ .bad := by
    unfold wlOf
    rw [dif_pos ⟨n, h⟩]
    exact Exists.choose_spec (p := fun n => f n ≠ .bad) ⟨n, h⟩
  obtain ⟨m, e⟩ := wlOf_ok f hb
  rw [← e] at hb ⊢
  rcases Nat.le_total n m with hl | hl
  · exact hm n m hl h
  · exact (hm m n hl hb).symm
/-- a while loop, by an invariant with a measure that falls -/
theorem ws_while (hw : T.wh = wlOf) {t : VM.E} {body : Ss} (I : Nat → Ev → Sto → Prop) {k0 : Nat} (h0 : I k0 ρ μ)
    (hs : ∀ k ρ μ, I k ρ μ → Wp (evE T b t ρ μ) (fun d μ1 => ∃ c, truD μ1 d.1 = some c ∧ (c = true → Ws (runSs T b body ρ μ1) (fun ρ' μ' => ∃ k', k' < k ∧ I k' ρ' μ') Rt N (fun ρ' μ' => ∃ k', k' < k ∧ I k' ρ' μ') X) ∧ (c = false → N ρ μ1)) (fun x μ => X x ρ μ)) :
    Ws (runS T b (.while_ t body) ρ μ) N Rt Bk Ct X := by
  have key : ∀ (k : Nat) (ρ : Ev) (μ : Sto), I k ρ μ → U.Ws (whLoop (fun ρ μ => tst (evE T b t ρ μ)) (fun ρ μ => runSs T b body ρ μ) (k + 1) ρ μ) N Rt Bk Ct X := by
    intro k
    induction k using Nat.strongRecOn with
    | ind k ih =>
      intro ρ μ hI
      have h := hs k ρ μ hI
      rw [wpS] at h
      show U.Ws ((tst (evE T b t ρ μ)).st ρ fun tt μ1 => match tt with
        | false => .nx ρ μ1
        | true => match runSs T b body ρ μ1 with
          | .nx ρ2 μ2 => whLoop (fun ρ μ => tst (evE T b t ρ μ)) (fun ρ μ => runSs T b body ρ μ) k ρ2 μ2
          | .ct ρ2 μ2 => whLoop (fun ρ μ => tst (evE T b t ρ μ)) (fun ρ μ => runSs T b body ρ μ) k ρ2 μ2
          | .brk ρ2 μ2 => .nx ρ2 μ2
          | r => r) N Rt Bk Ct X
      unfold tst
      cases q : evE T b t ρ μ with
      | bad => rw [q] at h; exact h.elim
      | err x μ1 => rw [q] at h; exact h
      | ok d μ1 =>
        rw [q] at h
        obtain ⟨c, hc, h1, h2⟩ := h
        show U.Ws ((okR (truD μ1 d.1) μ1).st ρ _) N Rt Bk Ct X
        rw [hc]
        cases c with
        | false => exact h2 rfl
        | true =>
          have h1 := h1 rfl
          rw [wsS] at h1
          show U.Ws (match runSs T b body ρ μ1 with
            | .nx ρ2 μ2 => whLoop (fun ρ μ => tst (evE T b t ρ μ)) (fun ρ μ => runSs T b body ρ μ) k ρ2 μ2
            | .ct ρ2 μ2 => whLoop (fun ρ μ => tst (evE T b t ρ μ)) (fun ρ μ => runSs T b body ρ μ) k ρ2 μ2
            | .brk ρ2 μ2 => .nx ρ2 μ2
            | r => r) N Rt Bk Ct X
          have step : ∀ ρ2 μ2, (∃ k', k' < k ∧ I k' ρ2 μ2) → U.Ws (whLoop (fun ρ μ => tst (evE T b t ρ μ)) (fun ρ μ => runSs T b body ρ μ) k ρ2 μ2) N Rt Bk Ct X := by
            intro ρ2 μ2 ⟨k', hk, hI'⟩
            have g := ih k' hk ρ2 μ2 hI'
            have nb : whLoop (fun ρ μ => tst (evE T b t ρ μ)) (fun ρ μ => runSs T b body ρ μ) (k' + 1) ρ2 μ2 ≠ .bad := fun z => by rw [z] at g; exact g
            rw [whLoop_mono (show k' + 1 ≤ k by omega) nb]; exact g
          cases q2 : runSs T b body ρ μ1 with
          | nx ρ2 μ2 => rw [q2] at h1; exact step ρ2 μ2 h1
          | ct ρ2 μ2 => rw [q2] at h1; exact step ρ2 μ2 h1
          | brk ρ2 μ2 => rw [q2] at h1; exact h1
          | ret d f μ2 => rw [q2] at h1; exact h1
          | err x ρ2 μ2 => rw [q2] at h1; exact h1
          | bad => rw [q2] at h1; exact h1
  rw [wsS]
  show U.Ws (T.wh fun n => whLoop (fun ρ μ => tst (evE T b t ρ μ)) (fun ρ μ => runSs T b body ρ μ) n ρ μ) N Rt Bk Ct X
  have g := key k0 ρ μ h0
  have nb : whLoop (fun ρ μ => tst (evE T b t ρ μ)) (fun ρ μ => runSs T b body ρ μ) (k0 + 1) ρ μ ≠ .bad := fun z => by rw [z] at g; exact g
  rw [hw, wlOf_at (f := fun n => whLoop (fun ρ μ => tst (evE T b t ρ μ)) (fun ρ μ => runSs T b body ρ μ) n ρ μ) (fun n m hl h => whLoop_mono hl h) nb]
  exact g
theorem x_calld {f : VM.E} {es : VM.Es} {Q : D × Nat → Sto → Prop} (h : Wp (evE T b f ρ μ) (fun d μ1 => ∃ x, d.1 = .fn x ∧ Wp (evEs T b es ρ μ1) (fun ds μ2 => Wp (T.call x b ds μ2) Q E) NoX) E) : Wp (evE T b (.calld f es) ρ μ) Q E := by
  show Wp ((evE T b f ρ μ).bind fun d μ1 => match d.1 with
    | .fn x => (noErr (evEs T b es ρ μ1)).bind fun ds μ2 => T.call x b ds μ2
    | _ => .bad) Q E
  rw [wp_bind]
  refine wp_mono h (fun d μ1 ⟨x, e, q⟩ => ?_) fun _ _ h => h
  rw [e]
  show Wp ((noErr (evEs T b es ρ μ1)).bind fun ds μ2 => T.call x b ds μ2) Q E
  rw [wp_bind, wp_noErr]; exact q
/-- par: two names at once -/
theorem ws_par {i j : Nat} {x y : VM.E} : Ws (runS T b (.par i j x y) ρ μ) N Rt Bk Ct X ↔ Wp (evE T b x ρ μ) (fun d μ1 => Wp (evE T b y ρ μ1) (fun e μ2 => N ((ρ.set i (some d.1)).set j (some e.1)) μ2) (fun x μ => X x ρ μ)) (fun x μ => X x ρ μ) := by
  show Ws ((evE T b x ρ μ).st ρ fun d μ1 => (evE T b y ρ μ1).st ρ fun e μ2 => .nx ((ρ.set i (some d.1)).set j (some e.1)) μ2) N Rt Bk Ct X ↔ _
  rw [ws_st]
  simp only [ws_st, ws_nx]
/-- a, (b, c) = … -/
theorem ws_set12 {i j k : Nat} {e : VM.E} (h : Wp (evE T b e ρ μ) (fun d μ1 => ∃ x y z, d.1 = .tup [x, .tup [y, z]] ∧ N (((ρ.set i (some x)).set j (some y)).set k (some z)) μ1) (fun x μ => X x ρ μ)) :
    Ws (runS T b (.set (.tup (.cons (.name i) (.cons (.tup (.cons (.name j) (.cons (.name k) .nil))) .nil))) e) ρ μ) N Rt Bk Ct X := by
  show Ws ((evE T b e ρ μ).st ρ fun d μ1 => onlyNx (asg T b (.tup (.cons (.name i) (.cons (.tup (.cons (.name j) (.cons (.name k) .nil))) .nil))) d.1 ρ μ1)) N Rt Bk Ct X
  rw [ws_st]
  refine wp_mono h (fun d μ1 ⟨x, y, z, e, q⟩ => ?_) fun _ _ h => h
  rw [e]
  exact ws_nx.mpr q
end
end VM

set_option Elab.async false
set_option maxRecDepth 100000
set_option autoImplicit false
set_option linter.unusedVariables false
set_option linter.unusedSimpArgs false
/-! what the laws draw with: deck, pick, number, rows -/
namespace VM
open PySem L2
def s__law_deck_0 : VM.S := (.ife (.cmp .GtE (.var 0) (.bin .Pow (.int 10) (.int 18))) (.cons (.ret (.lst (.cons (.bin .Sub (.var 0) (.bin .Pow (.int 10) (.int 18))) (.cons (.bin .Mod (.var 0) (.int 2147483579)) (.cons (.var 1) .nil)))))
  .nil) .nil)
def s__law_deck_1 : VM.S := (.ret (.lst (.cons (.int 0) (.cons (.bin .Mod (.var 0) (.int 2147483579)) (.cons (.var 1) .nil)))))
def b__law_deck : Ss := (.cons s__law_deck_0 (.cons s__law_deck_1 .nil))
def f__law_deck : Fn := ⟨2, 2, false, b__law_deck⟩
def s__law_pick_0 : VM.S := (.ife (.cmp .Gt (.ix (.var 0) (.int 0)) (.int 1)) (.cons (.set (.name 2) (.bin .Mod (.ix (.var 0) (.int 0)) (.var 1)))
  (.cons (.set (.sub (.var 0) (.int 0)) (.bin .FloorDiv (.ix (.var 0) (.int 0)) (.var 1)))
  (.cons (.ret (.var 2))
  .nil))) .nil)
def s__law_pick_1 : VM.S := (.set (.sub (.var 0) (.int 2)) (.bin .Add (.ix (.var 0) (.int 2)) (.int 1)))
def s__law_pick_2 : VM.S := (.set (.name 3) (.bin .Mod (.bin .Pow (.bin .Add (.ix (.var 0) (.int 1)) (.bin .Mult (.int 15485867) (.ix (.var 0) (.int 2)))) (.int 5)) (.int 2147483647)))
def s__law_pick_3 : VM.S := (.set (.name 2) (.bin .FloorDiv (.bin .Mod (.bin .Pow (.bin .Add (.var 3) (.bin .Mult (.int 7919) (.ix (.var 0) (.int 2)))) (.int 3)) (.int 2147483629)) (.int 32)))
def s__law_pick_4 : VM.S := (.ife (.cmp .Gt (.var 1) (.int 1000000)) (.cons (.ret (.bin .Mod (.bin .Add (.bin .Mult (.var 2) (.int 2147483563)) (.var 3)) (.var 1)))
  .nil) .nil)
def s__law_pick_5 : VM.S := (.ret (.bin .Mod (.var 2) (.var 1)))
def b__law_pick : Ss := (.cons s__law_pick_0 (.cons s__law_pick_1 (.cons s__law_pick_2 (.cons s__law_pick_3 (.cons s__law_pick_4 (.cons s__law_pick_5 .nil))))))
def f__law_pick : Fn := ⟨2, 4, false, b__law_pick⟩
def s__law_number_0 : VM.S := (.set (.name 2) (.ix (.lst (.cons (.int 3) (.cons (.bin .Pow (.int 10) (.int 9)) (.cons (.int 40) .nil)))) (.var 1)))
def s__law_number_1 : VM.S := (.ret (.bin .Sub (.call "_law_pick" (.cons (.var 0) (.cons (.bin .Add (.bin .Mult (.int 2) (.var 2)) (.int 1)) .nil))) (.var 2)))
def b__law_number : Ss := (.cons s__law_number_0 (.cons s__law_number_1 .nil))
def f__law_number : Fn := ⟨2, 3, false, b__law_number⟩
def s__law_rows_0 : VM.S := (.set (.name 3) (.call "_law_pick" (.cons (.var 0) (.cons (.int 6) .nil))))
def s__law_rows_1 : VM.S := (.set (.name 4) (.ix (.lst (.cons (.int 0) (.cons (.int 0) (.cons (.int 1) (.cons (.int 2) .nil))))) (.call "_law_pick" (.cons (.var 0) (.cons (.int 4) .nil)))))
def s__law_rows_2 : VM.S := (.ife (.cmp .Lt (.var 3) (.int 2)) (.cons (.ret (.lc (.lc (.call "_law_number" (.cons (.var 0) (.cons (.var 4) .nil))) (.name 6) (.rng1 (.var 2)) (.bl true) [6]) (.name 5) (.rng1 (.var 1)) (.bl true) [5]))
  .nil) .nil)
def s__law_rows_3 : VM.S := (.set (.name 7) (.thaw (.lc (.thaw (.lc (.bi "int" (.cons (.cmp .Eq (.var 6) (.var 5)) .nil)) (.name 6) (.rng1 (.var 2)) (.bl true) [6])) (.name 5) (.rng1 (.var 1)) (.bl true) [5])))
def s__law_rows_4 : VM.S := (.for_ (.name 8) (.rng1 (.bin .Add (.int 2) (.call "_law_pick" (.cons (.var 0) (.cons (.int 6) .nil))))) (.cons (.set (.name 5) (.call "_law_pick" (.cons (.var 0) (.cons (.var 2) .nil))))
  (.cons (.set (.name 6) (.call "_law_pick" (.cons (.var 0) (.cons (.var 2) .nil))))
  (.cons (.set (.name 9) (.call "_law_number" (.cons (.var 0) (.cons (.ix (.lst (.cons (.int 0) (.cons (.int 0) (.cons (.int 2) .nil)))) (.call "_law_pick" (.cons (.var 0) (.cons (.int 3) .nil)))) .nil))))
  (.cons (.for_ (.name 10) (.ex (.var 7)) (.cons (.set (.sub (.var 10) (.var 6)) (.bin .Add (.ix (.var 10) (.var 6)) (.bin .Mult (.bin .Mult (.var 9) (.ix (.var 10) (.var 5))) (.bi "int" (.cons (.cmp .NotEq (.var 5) (.var 6)) .nil)))))
  .nil))
  .nil)))))
def s__law_rows_5 : VM.S := (.set (.name 11) (.call "_law_pick" (.cons (.var 0) (.cons (.var 1) .nil))))
def s__law_rows_6 : VM.S := (.ife (.cmp .Eq (.var 3) (.int 4)) (.cons (.set (.name 9) (.bin .Add (.bin .Mult (.call "_law_number" (.cons (.var 0) (.cons (.int 0) .nil))) (.int 2)) (.call "_law_pick" (.cons (.var 0) (.cons (.int 2) .nil)))))
  (.cons (.set (.sub (.var 7) (.var 11)) (.lc (.bin .Mult (.var 9) (.var 13)) (.name 13) (.ex (.ix (.var 7) (.var 11))) (.bl true) [13]))
  .nil)) .nil)
def s__law_rows_7 : VM.S := (.for_ (.name 8) (.rng1 (.call "_law_pick" (.cons (.var 0) (.cons (.bin .Mult (.int 2) (.var 1)) .nil)))) (.cons (.set (.name 5) (.call "_law_pick" (.cons (.var 0) (.cons (.var 1) .nil))))
  (.cons (.set (.name 6) (.call "_law_pick" (.cons (.var 0) (.cons (.var 1) .nil))))
  (.cons (.set (.name 9) (.call "_law_number" (.cons (.var 0) (.cons (.int 0) .nil))))
  (.cons (.ife (.cmp .NotEq (.var 5) (.var 6)) (.cons (.set (.sub (.var 7) (.var 5)) (.lc (.bin .Add (.var 13) (.bin .Mult (.var 9) (.var 12))) (.tup (.cons (.name 13) (.cons (.name 12) .nil))) (.zip (.ix (.var 7) (.var 5)) (.ix (.var 7) (.var 6))) (.bl true) [13, 12]))
  .nil) .nil)
  .nil)))))
def s__law_rows_8 : VM.S := (.ife (.and (.cmp .Eq (.var 3) (.int 5)) (.cmp .Gt (.var 1) (.int 1))) (.cons (.set (.name 12) (.ix (.var 7) (.bin .Sub (.var 11) (.int 1))))
  (.cons (.set (.name 9) (.call "_law_number" (.cons (.var 0) (.cons (.int 0) .nil))))
  (.cons (.set (.sub (.var 7) (.var 11)) (.lc (.bin .Mult (.var 9) (.var 13)) (.name 13) (.ex (.var 12)) (.bl true) [13]))
  .nil))) .nil)
def s__law_rows_9 : VM.S := (.ret (.var 7))
def b__law_rows : Ss := (.cons s__law_rows_0 (.cons s__law_rows_1 (.cons s__law_rows_2 (.cons s__law_rows_3 (.cons s__law_rows_4 (.cons s__law_rows_5 (.cons s__law_rows_6 (.cons s__law_rows_7 (.cons s__law_rows_8 (.cons s__law_rows_9 .nil))))))))))
def f__law_rows : Fn := ⟨3, 14, false, b__law_rows⟩
/-- a deck -/
def Dk (μ : Sto) (l n : Nat) : Prop := ∃ a b c : Int, μ[l]? = some (.lst [.int a, .int b, .int c]) ∧ 0 ≤ b ∧ b < 2147483579 ∧ 0 ≤ c ∧ c ≤ n
structure Fr (μ μ' : Sto) (l : Nat) : Prop where
  len : μ'.length = μ.length
  at_ : ∀ k, k ≠ l → μ'[k]? = μ[k]?
theorem fm0 (a : Int) {m : Int} (h : 0 < m) : 0 ≤ a.fmod m := by rw [Int.fmod_eq_emod_of_nonneg _ (by omega)]; exact Int.emod_nonneg _ (by omega)
theorem fm1 (a : Int) {m : Int} (h : 0 < m) : a.fmod m < m := by rw [Int.fmod_eq_emod_of_nonneg _ (by omega)]; exact Int.emod_lt_of_pos _ h
theorem lg {n p : Nat} (h : n < 2 ^ p) : n.log2 ≤ p := by
  by_cases h0 : n = 0
  · subst h0; simp
  · exact Nat.le_of_lt ((Nat.log2_lt h0).mpr h)
theorem lgm {i j : Int} {p q : Nat} (h1 : i.natAbs < 2 ^ p) (h2 : j.natAbs < 2 ^ q) (h : p + q < 130000000) : i.natAbs.log2 + j.natAbs.log2 < 130000000 := by
  have := lg h1
  have := lg h2
  omega
theorem lg9 {i : Int} (h : i.natAbs < 2 ^ 200) : i.natAbs.log2 < 9000 := Nat.lt_of_le_of_lt (lg h) (by decide)
variable {E : Exc → Sto → Prop}
variable {P : Pg}
theorem wp_call {n : Nat} {f : Str} {fn : Fn} (h : P.fns f = some fn) {b : Nat} {ds : List D} {μ : Sto} {Q : D × Nat → Sto → Prop} : Wp ((tb P (n + 1)).call f b ds μ) Q E ↔ Wp (runFn (tb P n) fn b ds μ) Q E := by
  show Wp (match P.fns f with | some fn => runFn (tb P n) fn b ds μ | none => .bad) Q E ↔ _
  rw [h]
theorem pick (hp : P.fns "_law_pick" = some f__law_pick) {n : Nat} {b l N : Nat} {m : Int} {μ : Sto} {Q : D × Nat → Sto → Prop} (hd : Dk μ l N) (hN : N ≤ 1000000) (hm : 0 < m) (hm2 : m < 2 ^ 200)
    (k : ∀ r μ', 0 ≤ r → r < m → Dk μ' l (N + 1) → Fr μ μ' l → Q (.int r, 0) μ') : Wp ((tb P (n + 1)).call "_law_pick" b [.cell l, .int m] μ) Q E := by
  obtain ⟨a, bb, c, h, hb0, hb1, hc0, hc1⟩ := hd
  refine (wp_call hp).mpr ((wp_run (by rfl)).mpr ?_)
  unfold b__law_pick s__law_pick_0 s__law_pick_1 s__law_pick_2 s__law_pick_3 s__law_pick_4 s__law_pick_5
  have hl : l < μ.length := (List.getElem?_eq_some_iff.mp h).1
  have put : ∀ (j : Nat) (xs : List D) (ν : Sto) (i : Int) (v : Int), ν[l]? = some (.lst xs) → ixN xs.length i = some j → setD μ.length (.cell l) (.int i) (.int v) ν = some (ν.set l (.lst (xs.set j (.int v)))) := fun j xs ν i v h1 h2 => set_cell h1 h2 put_int
  have fr : ∀ c : C, Fr μ (μ.set l c) l := fun c => ⟨List.length_set, fun k hk => List.getElem?_set_ne (Ne.symm hk)⟩
  have at_ : ∀ c : C, (μ.set l c)[l]? = some c := fun c => List.getElem?_set_self hl
  have tk : ∀ c : C, (μ.set l c).take μ.length = μ.set l c := fun c => by rw [List.take_of_length_le (by rw [List.length_set]; exact Nat.le_refl _)]
  have f_int : ∀ {n f : Nat} {i : Int} {ν : Sto}, frzTop n (.int i) f ν = some (.int i, 0) := rfl
  simp only [ws_cons, ws_nil, ws_ife, ws_set, ws_sub, ws_ret_, x_cmp, x_ix, x_int, x_bin, y_var, List.map_cons, List.map_nil, List.replicate, List.cons_append, List.nil_append, List.getElem?_cons_zero, List.getElem?_cons_succ, Option.some.injEq, exists_eq_left', List.set_cons_zero, List.set_cons_succ, ix_cell h, at0, at1, at2, c_gt, t_bl, n_add, n_sub, n_mul, n_mod, n_fdiv, n_pow, decide_eq_true_eq, decide_eq_false_iff_not]
  refine ⟨fun ha => ?_, fun ha => ?_⟩
  · refine ⟨by omega, by omega, _, put 0 _ _ _ _ h rfl, ?_⟩
    rw [tk]
    exact ⟨_, f_int, k _ _ (fm0 _ hm) (fm1 _ hm) ⟨_, bb, c, at_ _, hb0, hb1, hc0, by omega⟩ (fr _)⟩
  · refine ⟨_, put 2 _ _ _ _ h rfl, ?_⟩
    simp only [ix_cell (at_ _), List.set_cons_zero, List.set_cons_succ, at0, at1, at2, Option.some.injEq, exists_eq_left', n_mul, n_pow, n_add, n_mod, n_fdiv, tk, f_int]
    have hc : (c + 1).natAbs < 2 ^ 20 := by omega
    have m1 := fm0 ((bb + 15485867 * (c + 1)) ^ Int.toNat 5) (m := 2147483647) (by decide)
    have m2 := fm1 ((bb + 15485867 * (c + 1)) ^ Int.toNat 5) (m := 2147483647) (by decide)
    generalize ((bb + 15485867 * (c + 1)) ^ Int.toNat 5).fmod 2147483647 = w at m1 m2 ⊢
    have m3 := fm0 ((w + 7919 * (c + 1)) ^ Int.toNat 3) (m := 2147483629) (by decide)
    have m4 := fm1 ((w + 7919 * (c + 1)) ^ Int.toNat 3) (m := 2147483629) (by decide)
    generalize ((w + 7919 * (c + 1)) ^ Int.toNat 3).fmod 2147483629 = z at m3 m4 ⊢
    have m5 : (z.fdiv 32).natAbs < 2 ^ 40 := by
      rw [Int.fdiv_eq_ediv_of_nonneg _ (by decide)]; omega
    have dk : Dk (μ.set l (.lst [.int a, .int bb, .int (c + 1)])) l (N + 1) := ⟨_, bb, _, at_ _, hb0, hb1, by omega, by omega⟩
    refine ⟨lgm (p := 24) (by decide) hc (by decide), ⟨by decide, by decide, by omega⟩, by decide, lgm (p := 24) (by decide) hc (by decide), ⟨by decide, by decide, by omega⟩, by decide, by decide, fun _ => ⟨lgm (q := 40) m5 (by decide) (by decide), by omega, ?_⟩, fun _ => ⟨by omega, ?_⟩⟩
    · exact k _ _ (fm0 _ hm) (fm1 _ hm) dk (fr _)
    · exact k _ _ (fm0 _ hm) (fm1 _ hm) dk (fr _)
end VM

set_option Elab.async false
set_option maxRecDepth 100000
set_option autoImplicit false
set_option linter.unusedVariables false
set_option linter.unusedSimpArgs false
namespace VM
open PySem L2
/-! what stays data -/
theorem mapM_of {α β : Type} {f : α → Option β} {g : α → β} : ∀ {xs : List α}, (∀ x ∈ xs, f x = some (g x)) → xs.mapM f = some (xs.map g)
  | [], _ => by simp
  | x :: xs, h => by
    rw [List.mapM_cons, h x List.mem_cons_self, mapM_of fun y hy => h y (List.mem_cons_of_mem _ hy)]; rfl
theorem frz_intL {n k : Nat} {μ : Sto} (r : List Int) : frz n μ (k + 2) (.lst (r.map .int)) = some (.lst (r.map .int)) := by
  show ((r.map D.int).mapM (frz n μ (k + 1))).map D.lst = _
  rw [mapM_of (g := id) (fun x hx => by obtain ⟨i, _, rfl⟩ := List.mem_map.mp hx; rfl), List.map_id]; rfl
abbrev rowD (r : List Int) : D := .lst (r.map .int)
abbrev rowsD (rs : List (List Int)) : D := .lst (rs.map rowD)
theorem frz_rows {n k : Nat} {μ : Sto} (rs : List (List Int)) : frz n μ (k + 3) (rowsD rs) = some (rowsD rs) := by
  show ((rs.map rowD).mapM (frz n μ (k + 2))).map D.lst = _
  rw [mapM_of (g := id) (fun x hx => by obtain ⟨r, _, rfl⟩ := List.mem_map.mp hx; exact frz_intL r), List.map_id]; rfl
theorem noRef_row {k : Nat} (r : List Int) : noRef (k + 2) (rowD r) = true := by
  show (r.map D.int).all (noRef (k + 1)) = true
  exact List.all_eq_true.mpr fun x hx => by obtain ⟨i, _, rfl⟩ := List.mem_map.mp hx; rfl
theorem noRef_rows {k : Nat} (r : List (List Int)) : noRef (k + 3) (rowsD r) = true := by
  show (r.map rowD).all (noRef (k + 2)) = true
  exact List.all_eq_true.mpr fun x hx => by obtain ⟨i, _, rfl⟩ := List.mem_map.mp hx; exact noRef_row i
theorem f_row {n f : Nat} {μ : Sto} {r : List Int} : frzTop n (rowD r) f μ = some (rowD r, f) := by
  show (frz n μ 9 (rowD r)).map (fun d' => (d', if f ≤ 1 then f else if noRef 9 (rowD r) then f else 1)) = _
  rw [frz_intL (k := 7), noRef_row (k := 7)]
  simp
theorem f_rows {n f : Nat} {μ : Sto} {r : List (List Int)} : frzTop n (rowsD r) f μ = some (rowsD r, f) := by
  show (frz n μ 9 (rowsD r)).map (fun d' => (d', if f ≤ 1 then f else if noRef 9 (rowsD r) then f else 1)) = _
  rw [frz_rows (k := 6), noRef_rows (k := 6)]
  simp
theorem Fr.refl (μ : Sto) (l : Nat) : Fr μ μ l := ⟨rfl, fun _ _ => rfl⟩
theorem Fr.trans {μ ν ξ : Sto} {l : Nat} (a : Fr μ ν l) (b : Fr ν ξ l) : Fr μ ξ l := ⟨b.len.trans a.len, fun k hk => (b.at_ k hk).trans (a.at_ k hk)⟩
theorem Dk.mono {μ : Sto} {l n m : Nat} (h : Dk μ l n) (k : n ≤ m) : Dk μ l m := by
  obtain ⟨a, b, c, h1, h2, h3, h4, h5⟩ := h
  exact ⟨a, b, c, h1, h2, h3, h4, by omega⟩
theorem Dk.lt {μ : Sto} {l n : Nat} (h : Dk μ l n) : l < μ.length := by
  obtain ⟨a, b, c, h1, _⟩ := h
  exact (List.getElem?_eq_some_iff.mp h1).1
variable {E : Exc → Sto → Prop} {P : Pg} {n b l N : Nat} {μ : Sto} {Q : D × Nat → Sto → Prop}
theorem deck (hp : P.fns "_law_deck" = some f__law_deck) {cell turn : Int} (k : ∀ a c : Int, 0 ≤ c → c < 2147483579 → Q (.lst [.int a, .int c, .int turn], 1) μ) : Wp ((tb P (n + 1)).call "_law_deck" b [.int cell, .int turn] μ) Q E := by
  refine (wp_call hp).mpr ((wp_run (by rfl)).mpr ?_)
  unfold b__law_deck s__law_deck_0 s__law_deck_1
  have fd : ∀ a c : Int, frzTop μ.length (.lst [.int a, .int c, .int turn]) 1 μ = some (.lst [.int a, .int c, .int turn], 1) := fun a c => f_row (r := [a, c, turn])
  simp only [List.map_cons, List.map_nil, List.replicate, List.cons_append, List.nil_append, ws_cons, ws_nil, ws_ife, ws_set, ws_sub, ws_ret_, ws_expr, ws_pass, ws_retn, ws_brk, ws_cnt, x_cmp, x_cmp2, x_ix, x_int, x_bl, x_str, x_non, x_npart, x_bin, x_neg, x_not, x_and, x_or, x_ife, x_lst, x_tup, x_call, x_bi, x_thaw, x_glob, ws_nilE, ws_consE, y_var, List.getElem?_cons_zero, List.getElem?_cons_succ, Option.some.injEq, exists_eq_left', List.set_cons_zero, List.set_cons_succ, c_gt, c_lt, c_le, c_ge, c_eq, c_ne, t_bl, t_int, n_add, n_sub, n_mul, n_mod, n_fdiv, n_pow, n_neg, ix_lst, ix_tup, decide_eq_true_eq, decide_eq_false_iff_not, fd, List.take_length, List.length_cons, List.length_nil]
  refine ⟨⟨by decide, by decide, by decide⟩, fun _ => ⟨⟨by decide, by decide, by decide⟩, by decide, by decide, k _ _ (fm0 _ (by decide)) (fm1 _ (by decide))⟩, fun _ => ⟨by decide, by decide, k _ _ (fm0 _ (by decide)) (fm1 _ (by decide))⟩⟩
/-- a drawn number: within 10^9, or (ways 0 and 2) within 40; with way 0 within 3 -/
theorem number (hp : P.fns "_law_pick" = some f__law_pick) (hn : P.fns "_law_number" = some f__law_number) {way : Int} (hw : way = 0 ∨ way = 1 ∨ way = 2) (hd : Dk μ l N) (hN : N ≤ 1000000)
    (k : ∀ r μ', r.natAbs ≤ 1000000000 → (way ≠ 1 → r.natAbs ≤ 40) → (way = 0 → r.natAbs ≤ 3) → Dk μ' l (N + 1) → Fr μ μ' l → Q (.int r, 0) μ') : Wp ((tb P (n + 2)).call "_law_number" b [.cell l, .int way] μ) Q E := by
  refine (wp_call hn).mpr ((wp_run (by rfl)).mpr ?_)
  have main : ∀ far : Int, atI [D.int 3, D.int (10 ^ Int.toNat 9), D.int 40] way = some (.int far) → 0 < far → far ≤ 1000000000 → (way ≠ 1 → far ≤ 40) → (way = 0 → far ≤ 3) → Ws (runSs (tb P (n + 1)) μ.length b__law_number (List.map some [D.cell l, D.int way] ++ List.replicate (3 - 2) none) μ)
      (fun _ μ' => Q (.non, 0) (μ'.take μ.length)) (fun d f μ' => ∃ x, frzTop μ.length d f μ' = some x ∧ Q x (μ'.take μ.length)) (fun _ _ => False) (fun _ _ => False) (fun x _ μ' => E x (μ'.take μ.length)) := by
    intro far hfar h0 h1 h2 h3
    unfold b__law_number s__law_number_0 s__law_number_1
    simp only [List.map_cons, List.map_nil, List.replicate, List.cons_append, List.nil_append, ws_cons, ws_nil, ws_ife, ws_set, ws_sub, ws_ret_, ws_expr, ws_pass, ws_retn, ws_brk, ws_cnt, x_cmp, x_cmp2, x_ix, x_int, x_bl, x_str, x_non, x_npart, x_bin, x_neg, x_not, x_and, x_or, x_ife, x_lst, x_tup, x_call, x_bi, x_thaw, x_glob, ws_nilE, ws_consE, y_var, List.getElem?_cons_zero, List.getElem?_cons_succ, Option.some.injEq, exists_eq_left', List.set_cons_zero, List.set_cons_succ, c_gt, c_lt, c_le, c_ge, c_eq, c_ne, t_bl, t_int, n_add, n_sub, n_mul, n_mod, n_fdiv, n_pow, n_neg, ix_lst, ix_tup, decide_eq_true_eq, decide_eq_false_iff_not, List.length_cons, List.length_nil, hfar]
    refine ⟨⟨by decide, by decide, by decide⟩, by decide, lgm (p := 2) (q := 31) (by decide) (by omega) (by decide), ?_⟩
    refine pick hp hd hN (by omega) (by omega) fun r μ' r0 r1 dk fr => ?_
    have tk : μ'.take μ.length = μ' := by rw [← fr.len, List.take_length]
    simp only [ws_ife, ws_set, ws_sub, ws_ret_, ws_expr, ws_pass, ws_retn, ws_brk, ws_cnt, x_cmp, x_cmp2, x_ix, x_int, x_bl, x_str, x_non, x_npart, x_bin, x_neg, x_not, x_and, x_or, x_ife, x_lst, x_tup, x_call, x_bi, x_thaw, x_glob, ws_nilE, ws_consE, y_var, List.getElem?_cons_zero, List.getElem?_cons_succ, Option.some.injEq, exists_eq_left', List.set_cons_zero, List.set_cons_succ, c_gt, c_lt, c_le, c_ge, c_eq, c_ne, t_bl, t_int, n_add, n_sub, n_mul, n_mod, n_fdiv, n_pow, n_neg, ix_lst, ix_tup, decide_eq_true_eq, decide_eq_false_iff_not]
    rw [tk]
    exact ⟨_, rfl, k _ _ (by omega) (fun z => by have := h2 z; omega) (fun z => by have := h3 z; omega) dk fr⟩
  rcases hw with rfl | rfl | rfl
  · exact main 3 at0 (by decide) (by decide) (fun _ => by decide) (fun _ => by decide)
  · exact main (10 ^ Int.toNat 9) at1 (by decide) (by decide) (fun z => absurd rfl z) (fun z => by cases z)
  · exact main 40 at2 (by decide) (by decide) (fun _ => by decide) (fun z => by cases z)
end VM

set_option Elab.async false
set_option maxRecDepth 100000
set_option autoImplicit false
set_option linter.unusedVariables false
set_option linter.unusedSimpArgs false
/-! rows drawn -/
namespace VM
open PySem L2
def Ints (B j : Nat) (acc : List D) : Prop := ∃ r : List Int, acc = r.map .int ∧ r.length = j ∧ ∀ x ∈ r, x.natAbs < 2 ^ B
theorem Ints.nil {B : Nat} : Ints B 0 [] := ⟨[], rfl, rfl, fun _ h => by cases h⟩
theorem Ints.snoc {B j : Nat} {acc : List D} {x : Int} (h : Ints B j acc) (hx : x.natAbs < 2 ^ B) : Ints B (j + 1) (acc ++ [.int x]) := by
  obtain ⟨r, rfl, rfl, h⟩ := h
  refine ⟨r ++ [x], by simp, by simp, fun y hy => ?_⟩
  rcases List.mem_append.mp hy with hy | hy
  · exact h y hy
  · rw [List.mem_singleton.mp hy]; exact hx
theorem Ints.len {B j : Nat} {acc : List D} (h : Ints B j acc) : acc.length = j := by
  obtain ⟨r, rfl, rfl, h⟩ := h; simp
theorem Ints.get {B j k : Nat} {acc : List D} (h : Ints B j acc) (hk : k < j) : ∃ x : Int, acc[k]? = some (.int x) ∧ x.natAbs < 2 ^ B := by
  obtain ⟨r, rfl, rfl, h⟩ := h
  exact ⟨r[k], by rw [List.getElem?_map, List.getElem?_eq_getElem hk]; rfl, h _ (List.getElem_mem hk)⟩
theorem Ints.mem {B j : Nat} {acc : List D} {d : D} (h : Ints B j acc) (hk : d ∈ acc) : ∃ x : Int, d = .int x ∧ x.natAbs < 2 ^ B := by
  obtain ⟨r, rfl, rfl, h⟩ := h
  obtain ⟨x, hx, rfl⟩ := List.mem_map.mp hk
  exact ⟨x, rfl, h x hx⟩
theorem Ints.mono {B C j : Nat} {acc : List D} (h : Ints B j acc) (k : B ≤ C) : Ints C j acc := by
  obtain ⟨r, rfl, rfl, h⟩ := h
  exact ⟨r, rfl, rfl, fun x hx => Nat.lt_of_lt_of_le (h x hx) (Nat.pow_le_pow_right (by decide) k)⟩
theorem Ints.set {B j k : Nat} {acc : List D} {x : Int} (h : Ints B j acc) (hx : x.natAbs < 2 ^ B) : Ints B j (acc.set k (.int x)) := by
  obtain ⟨r, rfl, rfl, h⟩ := h
  refine ⟨r.set k x, by rw [List.map_set], by simp, fun y hy => ?_⟩
  rcases List.mem_or_eq_of_mem_set hy with hy | rfl
  · exact h y hy
  · exact hx
def Row (B long : Nat) (d : D) : Prop := ∃ xs, d = .lst xs ∧ Ints B long xs
theorem Row.mono {B C long : Nat} {d : D} (h : Row B long d) (k : B ≤ C) : Row C long d := by
  obtain ⟨xs, rfl, h⟩ := h; exact ⟨xs, rfl, h.mono k⟩
/-- what rows are -/
def RowsR (B many long : Nat) (d : D) : Prop := ∃ rs : List (List Int), d = rowsD rs ∧ rs.length = many ∧ ∀ r ∈ rs, r.length = long ∧ ∀ x ∈ r, x.natAbs < 2 ^ B
theorem rows_of {B long : Nat} : ∀ {ds : List D}, (∀ d ∈ ds, Row B long d) → RowsR B ds.length long (.lst ds)
  | [], _ => ⟨[], rfl, rfl, fun _ h => by cases h⟩
  | d :: ds, h => by
    obtain ⟨rs, e, hl, hr⟩ := rows_of fun x hx => h x (List.mem_cons_of_mem _ hx)
    obtain ⟨xs, rfl, r, rfl, h2, h3⟩ := h d List.mem_cons_self
    cases e
    refine ⟨r :: rs, rfl, by simp, fun q hq => ?_⟩
    rcases List.mem_cons.mp hq with rfl | hq
    · exact ⟨h2, h3⟩
    · exact hr q hq
theorem range_at {lo : Int} {n i : Nat} {x : D} (h : (rangeD lo n)[i]? = some x) : i < n ∧ x = .int (lo + (i : Nat)) := by
  unfold rangeD at h
  rw [List.getElem?_map] at h
  obtain ⟨j, hj, rfl⟩ := map_some h
  obtain ⟨hi, e⟩ := List.getElem?_eq_some_iff.mp hj
  rw [List.length_range] at hi
  rw [List.getElem_range] at e
  subst e
  exact ⟨hi, rfl⟩
theorem range_len {lo : Int} {n : Nat} : (rangeD lo n).length = n := by unfold rangeD; simp
theorem small_of {i : Int} (h : -1000000000 ≤ i) (h2 : i ≤ 1000000000) : smallI i = true := by
  unfold smallI
  simp only [Bool.and_eq_true, decide_eq_true_eq]; omega
theorem mulB {i j : Int} {p q : Nat} (h1 : i.natAbs < 2 ^ p) (h2 : j.natAbs < 2 ^ q) : (i * j).natAbs < 2 ^ (p + q) := by
  rw [Int.natAbs_mul, Nat.pow_add]
  exact Nat.mul_lt_mul_of_lt_of_le h1 (Nat.le_of_lt h2) (Nat.pow_pos (by decide))
theorem addB {i j : Int} {p : Nat} (h1 : i.natAbs < 2 ^ p) (h2 : j.natAbs < 2 ^ p) : (i + j).natAbs < 2 ^ (p + 1) := by
  have := Int.natAbs_add_le i j
  rw [Nat.pow_succ]; omega
theorem powM {x p q : Nat} (h : x < 2 ^ p) (k : p ≤ q) : x < 2 ^ q := Nat.lt_of_lt_of_le h (Nat.pow_le_pow_right (by decide) k)
variable {E : Exc → Sto → Prop} {P : Pg} {n b l N : Nat} {μ : Sto} {Q : D × Nat → Sto → Prop}
structure Dr (P : Pg) : Prop where
  pick : P.fns "_law_pick" = some f__law_pick
  number : P.fns "_law_number" = some f__law_number
  rows : P.fns "_law_rows" = some f__law_rows
/-- cells from n0: the rows; then the list of them -/
structure St1 (μ0 μ : Sto) (l N many long : Nat) (Bf : Nat → Nat) : Prop where
  len : μ.length = μ0.length + many + 1
  fr : ∀ k, k < μ0.length → k ≠ l → μ[k]? = μ0[k]?
  dk : Dk μ l N
  rws : μ[μ0.length + many]? = some (.lst ((List.range many).map fun k => .cell (μ0.length + k)))
  row : ∀ k, k < many → ∃ xs, μ[μ0.length + k]? = some (.lst xs) ∧ Ints (Bf k) long xs
structure St2 (μ0 μ : Sto) (l N many long B : Nat) : Prop where
  len : μ.length = μ0.length + many + 1
  fr : ∀ k, k < μ0.length → k ≠ l → μ[k]? = μ0[k]?
  dk : Dk μ l N
  rws : ∃ ds, μ[μ0.length + many]? = some (.lst ds) ∧ ds.length = many ∧ ∀ d ∈ ds, ∃ xs, itemsL μ d = some xs ∧ Ints B long xs ∧ (d = .lst xs ∨ ∃ c, d = .cell c ∧ μ0.length ≤ c ∧ c < μ0.length + many)
section
variable {μ0 : Sto} {many long B : Nat}
theorem St1.step {Bf : Nat → Nat} {μ' : Sto} (h : St1 μ0 μ l N many long Bf) (hl : l < μ0.length) {M : Nat} (f : Fr μ μ' l) (d : Dk μ' l M) : St1 μ0 μ' l M many long Bf :=
  ⟨f.len.trans h.len, fun k hk hn => (f.at_ k hn).trans (h.fr k hk hn), d, (f.at_ _ (by omega)).trans h.rws, fun k hk => by
    obtain ⟨xs, e, q⟩ := h.row k hk
    exact ⟨xs, (f.at_ _ (by omega)).trans e, q⟩⟩
theorem St2.step {μ' : Sto} (h : St2 μ0 μ l N many long B) (hl : l < μ0.length) {M : Nat} (f : Fr μ μ' l) (d : Dk μ' l M) : St2 μ0 μ' l M many long B := by
  refine ⟨f.len.trans h.len, fun k hk hn => (f.at_ k hn).trans (h.fr k hk hn), d, ?_⟩
  obtain ⟨ds, h1, h2, h3⟩ := h.rws
  refine ⟨ds, (f.at_ _ (by omega)).trans h1, h2, fun d hd => ?_⟩
  obtain ⟨xs, e, q, w⟩ := h3 d hd
  refine ⟨xs, ?_, q, w⟩
  rcases w with rfl | ⟨c, rfl, hc, hc2⟩
  · exact e
  · show (match μ'[c]? with | some (C.lst xs) => some xs | _ => none) = _
    rw [f.at_ c (by omega)]; exact e
theorem St1.mono {Bf Bg : Nat → Nat} (h : St1 μ0 μ l N many long Bf) {M : Nat} (k : N ≤ M) (g : ∀ k, k < many → Bf k ≤ Bg k) : St1 μ0 μ l M many long Bg :=
  ⟨h.len, h.fr, h.dk.mono k, h.rws, fun k hk => by obtain ⟨xs, e, q⟩ := h.row k hk; exact ⟨xs, e, q.mono (g k hk)⟩⟩
theorem St2.mono (h : St2 μ0 μ l N many long B) {M C : Nat} (k : N ≤ M) (g : B ≤ C) : St2 μ0 μ l M many long C := by
  obtain ⟨ds, h1, h2, h3⟩ := h.rws
  refine ⟨h.len, h.fr, h.dk.mono k, ds, h1, h2, fun d hd => ?_⟩
  obtain ⟨xs, e, q, w⟩ := h3 d hd
  exact ⟨xs, e, q.mono g, w⟩
theorem St1.two {Bf : Nat → Nat} (h : St1 μ0 μ l N many long Bf) (g : ∀ k, k < many → Bf k ≤ B) : St2 μ0 μ l N many long B := by
  refine ⟨h.len, h.fr, h.dk, _, h.rws, by simp, fun d hd => ?_⟩
  obtain ⟨k, hk, rfl⟩ := List.mem_map.mp hd
  have hk := List.mem_range.mp hk
  obtain ⟨xs, e, q⟩ := h.row k hk
  refine ⟨xs, ?_, q.mono (g k hk), .inr ⟨_, rfl, by omega, by omega⟩⟩
  show (match μ[μ0.length + k]? with | some (C.lst xs) => some xs | _ => none) = _
  rw [e]
/-- a row is put in -/
theorem St2.put (h : St2 μ0 μ l N many long B) (hl : l < μ0.length) {k : Nat} {xs : List D} (q : Ints B long xs) : ∃ ds, μ[μ0.length + many]? = some (.lst ds) ∧ ds.length = many ∧ St2 μ0 (μ.set (μ0.length + many) (.lst (ds.set k (.lst xs)))) l N many long B := by
  obtain ⟨ds, h1, h2, h3⟩ := h.rws
  have hlen : μ0.length + many < μ.length := by have := h.len; omega
  have keep : ∀ c, c < μ0.length + many → (μ.set (μ0.length + many) (.lst (ds.set k (.lst xs))))[c]? = μ[c]? := fun c hc => List.getElem?_set_ne (by omega)
  refine ⟨ds, h1, h2, ⟨by rw [List.length_set]; exact h.len, fun k hk hn => (keep k (by omega)).trans (h.fr k hk hn), ?_, _, List.getElem?_set_self hlen, by rw [List.length_set]; exact h2, fun d hd => ?_⟩⟩
  · obtain ⟨a, bb, c, e, r⟩ := h.dk
    exact ⟨a, bb, c, (keep l (by omega)).trans e, r⟩
  · rcases List.mem_or_eq_of_mem_set hd with hd | rfl
    · obtain ⟨ys, e, q, w⟩ := h3 d hd
      refine ⟨ys, ?_, q, w⟩
      rcases w with rfl | ⟨c, rfl, hc, hc2⟩
      · exact e
      · show (match (μ.set (μ0.length + many) (.lst (ds.set k (.lst xs))))[c]? with | some (C.lst xs) => some xs | _ => none) = _
        rw [keep c hc2]; exact e
    · exact ⟨xs, rfl, q, .inl rfl⟩
/-- what is handed out -/
theorem St2.out (h : St2 μ0 μ l N many long B) (hl : l < μ0.length) : ∃ d f, frzTop μ0.length (.cell (μ0.length + many)) 0 μ = some (d, f) ∧ RowsR B many long d ∧ Dk (μ.take μ0.length) l N ∧ Fr μ0 (μ.take μ0.length) l := by
  obtain ⟨ds, h1, h2, h3⟩ := h.rws
  have fz : ∀ d ∈ ds, ∃ xs, frz μ0.length μ 9 d = some (.lst xs) ∧ Ints B long xs := by
    intro d hd
    obtain ⟨xs, e, ⟨r, rfl, q, q2⟩, w⟩ := h3 d hd
    refine ⟨_, ?_, r, rfl, q, q2⟩
    rcases w with rfl | ⟨c, rfl, hc, hc2⟩
    · exact frz_intL (k := 7) r
    · have e : (match μ[c]? with | some (C.lst xs) => some xs | _ => none) = some (r.map .int) := e
      show (if c < μ0.length then some (D.cell c) else match μ[c]? with | some (.lst xs) => (xs.mapM (frz μ0.length μ 8)).map D.lst | _ => none) = _
      rw [if_neg (by omega)]
      split at e
      · rename_i ys hy
        cases e
        exact frz_intL (k := 7) r
      · cases e
  have all : ∃ ys, ds.mapM (frz μ0.length μ 9) = some ys ∧ ys.length = ds.length ∧ ∀ d ∈ ys, Row B long d := by
    clear h1 h2 h3
    induction ds with
    | nil => exact ⟨[], by simp, rfl, fun _ h => by cases h⟩
    | cons d ds ih =>
      obtain ⟨ys, h1, h2, h3⟩ := ih fun x hx => fz x (List.mem_cons_of_mem _ hx)
      obtain ⟨xs, e, q⟩ := fz d List.mem_cons_self
      refine ⟨.lst xs :: ys, by rw [List.mapM_cons, e, h1]; rfl, by simp [h2], fun x hx => ?_⟩
      rcases List.mem_cons.mp hx with rfl | hx
      · exact ⟨xs, rfl, q⟩
      · exact h3 x hx
  obtain ⟨ys, e, e2, e3⟩ := all
  refine ⟨.lst ys, ownF μ0.length (.cell (μ0.length + many)) μ, ?_, ?_, ?_, ?_⟩
  · have hz : frz μ0.length μ 10 (.cell (μ0.length + many)) = some (.lst ys) := by
      show (if μ0.length + many < μ0.length then some (D.cell (μ0.length + many)) else match μ[μ0.length + many]? with | some (.lst xs) => (xs.mapM (frz μ0.length μ 9)).map D.lst | _ => none) = _
      rw [if_neg (by omega), h1]
      show (ds.mapM (frz μ0.length μ 9)).map _ = _
      rw [e]; rfl
    show (if μ0.length + many < μ0.length then _ else (frz μ0.length μ 10 (.cell (μ0.length + many))).map fun d' => (d', ownF μ0.length (.cell (μ0.length + many)) μ)) = _
    rw [if_neg (by omega), hz]; rfl
  · have := rows_of e3
    rw [e2, h2] at this; exact this
  · obtain ⟨a, bb, c, e, r⟩ := h.dk
    exact ⟨a, bb, c, by rw [List.getElem?_take, if_pos hl]; exact e, r⟩
  · have := h.len
    refine ⟨by rw [List.length_take]; omega, fun k hk => ?_⟩
    rw [List.getElem?_take]
    split
    · rename_i h; exact ‹St2 μ0 μ l N many long B›.fr k h hk
    · rename_i h; rw [List.getElem?_eq_none (by omega)]
end
end VM

set_option Elab.async false
set_option maxRecDepth 10000
set_option autoImplicit false
set_option linter.unusedVariables false
set_option linter.unusedSimpArgs false
/-! rows drawn: the def -/
namespace VM
open PySem L2
variable {E : Exc → Sto → Prop} {P : Pg} {n b l N : Nat} {μ : Sto} {Q : D × Nat → Sto → Prop}
theorem wipe1 {ρ : Ev} {v : Nat} : wipeD ρ [v] = ρ.set v none := rfl
theorem wipe2 {ρ : Ev} {v w : Nat} : wipeD ρ [v, w] = (ρ.set w none).set v none := rfl
theorem bi_int_bl {k : Bool} : Wp (biD "int" [.bl k] μ) Q E ↔ Q (.int (if k then 1 else 0), 0) μ := wp_ok
theorem Fr.take {μ ν : Sto} {l : Nat} (f : Fr μ ν l) : ν.take μ.length = ν := by rw [← f.len, List.take_length]
theorem wp_lcRange {F : D → Sto → R (Option D)} {lo : Int} {m : Nat} {Q : List D → Sto → Prop} (I : Nat → List D → Sto → Prop) (h0 : I 0 [] μ)
    (hs : ∀ (i : Nat) acc μ', i < m → I i acc μ' → Wp (F (.int (lo + (i : Nat))) μ') (fun y μ2 => match y with | none => I (i + 1) acc μ2 | some d => acc.length < sizeLine ∧ I (i + 1) (acc ++ [d]) μ2) E) (he : ∀ acc μ', I m acc μ' → Q acc μ') :
    Wp (lcLoop F (.data (rangeD lo m)) ((Src.data (rangeD lo m)).size μ + 1) 0 [] μ) Q E := by
  refine wp_lcLoop (xs := rangeD lo m) I (fun _ _ _ _ => src_data _) (by rfl) h0 (fun i x acc μ' hx hI => ?_) fun acc μ' hI => ?_
  · obtain ⟨hi, rfl⟩ := range_at hx
    exact hs i acc μ' hi hI
  · rw [range_len] at hI; exact he acc μ' hI
theorem ws_forRange {T : Tb} {i : Nat} {it : VM.It} {body : Ss} {ρ : Ev} {N Bk Ct : Ev → Sto → Prop} {Rt : D → Nat → Sto → Prop} {X : Exc → Ev → Sto → Prop} (h : Wp (evIt T b it ρ μ) (fun src μ1 => ∃ (lo : Int) (m : Nat) (I : Nat → Ev → Sto → Prop), src = .data (rangeD lo m) ∧ I 0 ρ μ1 ∧
      (∀ (k : Nat) ρ' μ', k < m → I k ρ' μ' → Ws (runSs T b body (ρ'.set i (some (.int (lo + (k : Nat))))) μ') (I (k + 1)) Rt N (I (k + 1)) X) ∧ ∀ ρ' μ', I m ρ' μ' → N ρ' μ') (fun x μ => X x ρ μ)) :
    Ws (runS T b (.for_ (.name i) it body) ρ μ) N Rt Bk Ct X := by
  refine ws_for (wp_mono h (fun src μ1 ⟨lo, m, I, hsrc, h0, hs, he⟩ => ?_) fun _ _ h => h)
  subst hsrc
  refine ⟨rangeD lo m, I, fun _ _ _ _ => src_data _, by rfl, h0, fun k x ρ' μ' hx hI => ?_, fun ρ' μ' hI => ?_⟩
  · obtain ⟨hi, rfl⟩ := range_at hx
    exact hs k ρ' μ' hi hI
  · rw [range_len] at hI; exact he ρ' μ' hI
theorem szr {n : Nat} (h : n < 1000) : n < sizeLine := Nat.lt_trans h (by decide)
theorem srcL_cell {μ : Sto} {l : Nat} {xs : List D} (h : μ[l]? = some (.lst xs)) : srcL μ (.cell l) = some (.cell l) := by
  show (match μ[l]? with | some (C.lst _) => some (Src.cell l) | _ => none) = _
  rw [h]
theorem srcIt_cell {μ : Sto} {l : Nat} {xs : List D} (h : μ[l]? = some (.lst xs)) : srcIt μ (.cell l) = some (.cell l) := srcL_cell h
theorem St1.upd {μ0 : Sto} {many long : Nat} {Bf : Nat → Nat} (h : St1 μ0 μ l N many long Bf) (hl : l < μ0.length) {c B : Nat} (hc : c < many) {xs : List D} (q : Ints B long xs) : St1 μ0 (μ.set (μ0.length + c) (.lst xs)) l N many long (fun k => if k = c then B else Bf k) := by
  have ne : ∀ k, k ≠ μ0.length + c → (μ.set (μ0.length + c) (.lst xs))[k]? = μ[k]? := fun k hk => List.getElem?_set_ne (Ne.symm hk)
  have hlen := h.len
  refine ⟨by rw [List.length_set]; exact h.len, fun k hk hn => (ne k (by omega)).trans (h.fr k hk hn), ?_, (ne _ (by omega)).trans h.rws, fun k hk => ?_⟩
  · obtain ⟨a, bb, c', e, r⟩ := h.dk
    exact ⟨a, bb, c', (ne l (by omega)).trans e, r⟩
  · by_cases e : k = c
    · subst e
      rw [if_pos rfl]
      exact ⟨xs, List.getElem?_set_self (by omega), q⟩
    · rw [if_neg e]
      obtain ⟨ys, e2, q2⟩ := h.row k hk
      exact ⟨ys, (ne _ (by omega)).trans e2, q2⟩
theorem Ints.atI {B long : Nat} {xs : List D} (q : Ints B long xs) {j : Int} (h0 : 0 ≤ j) (h1 : j < long) : ∃ v : Int, L2.atI xs j = some (.int v) ∧ v.natAbs < 2 ^ B := by
  obtain ⟨v, e, hv⟩ := q.get (k := j.toNat) (by omega)
  exact ⟨v, by rw [atN h0 (by rw [q.len]; exact h1)]; exact e, hv⟩
section
variable {many long : Nat} {Nn Bk Ct : Ev → Sto → Prop} {Rt : VM.D → Nat → Sto → Prop} {X : Exc → Ev → Sto → Prop} {μ0 : Sto}
abbrev ev2 (l many long : Nat) (way size : Int) : Ev := [some (.cell l), some (.int many), some (.int long), some (.int way), some (.int size), none, none, none, none, none, none, none, none, none]
theorem rows_2 (D : Dr P) (hm2 : many ≤ 20) (hl2 : long ≤ 20) {way size : Int} (hsize : size = 0 ∨ size = 1 ∨ size = 2) (f12 : Fr μ0 μ l) (d2 : Dk μ l N) (hN : N ≤ 900000)
    (hn : Nn (ev2 l many long way size) μ) (hr : ∀ d f μ', RowsR 100 many long d → Dk μ' l (N + 400) → Fr μ0 μ' l → Rt d f μ') :
    Ws (runS (tb P (n + 2)) b s__law_rows_2 (ev2 l many long way size) μ) Nn Rt Bk Ct X := by
  have p30 : (1000000000 : Nat) < 2 ^ 100 := by decide
  unfold s__law_rows_2 ev2
  simp only [ws_ife, ws_set, ws_sub, ws_ret_, ws_expr, ws_pass, ws_retn, ws_brk, ws_cnt, x_cmp, x_cmp2, x_ix, x_int, x_bl, x_str, x_non, x_npart, x_bin, x_neg, x_not, x_and, x_or, x_ife, x_lst, x_tup, x_call, x_bi, x_thaw, x_glob, ws_nilE, ws_consE, y_var, List.getElem?_cons_zero, List.getElem?_cons_succ, Option.some.injEq, exists_eq_left', List.set_cons_zero, List.set_cons_succ, c_gt, c_lt, c_le, c_ge, c_eq, c_ne, t_bl, t_int, n_add, n_sub, n_mul, n_mod, n_fdiv, n_pow, n_neg, ix_lst, ix_tup, decide_eq_true_eq, decide_eq_false_iff_not, ws_cons, ws_nil, x_lc, i_r1, lc_name, wipe1, VM.D.int.injEq]
  refine ⟨fun _ => ⟨small_of (by omega) (by omega), ?_⟩, fun _ => hn⟩
  refine wp_lcRange (fun i acc μ' => (∀ d ∈ acc, Row 100 long d) ∧ acc.length = i ∧ Dk μ' l (N + i * long) ∧ Fr μ0 μ' l) ⟨(fun _ h => by cases h), rfl, d2.mono (by omega), f12⟩ (fun i acc μ3 hi hI => ?_) fun acc μ3 hI => ?_
  · have h1 := hI.1; have h2 := hI.2.1; have h3 := hI.2.2.1; have h4 := hI.2.2.2
    simp only [ws_ife, ws_set, ws_sub, ws_ret_, ws_expr, ws_pass, ws_retn, ws_brk, ws_cnt, x_cmp, x_cmp2, x_ix, x_int, x_bl, x_str, x_non, x_npart, x_bin, x_neg, x_not, x_and, x_or, x_ife, x_lst, x_tup, x_call, x_bi, x_thaw, x_glob, ws_nilE, ws_consE, y_var, List.getElem?_cons_zero, List.getElem?_cons_succ, Option.some.injEq, exists_eq_left', List.set_cons_zero, List.set_cons_succ, c_gt, c_lt, c_le, c_ge, c_eq, c_ne, t_bl, t_int, n_add, n_sub, n_mul, n_mod, n_fdiv, n_pow, n_neg, ix_lst, ix_tup, decide_eq_true_eq, decide_eq_false_iff_not, x_lc, i_r1, lc_name, wipe1, VM.D.int.injEq, Bool.true_eq_false, false_implies, and_true, true_implies]
    refine ⟨small_of (by omega) (by omega), ?_⟩
    refine wp_lcRange (fun j ac μ' => Ints 100 j ac ∧ Dk μ' l (N + i * long + j) ∧ Fr μ0 μ' l) ⟨.nil, h3.mono (by omega), h4⟩ (fun j ac μ4 hj hJ => ?_) fun ac μ4 hJ => ?_
    · have g1 := hJ.1; have g2 := hJ.2.1; have g3 := hJ.2.2
      have il : i * long ≤ 20 * 20 := Nat.mul_le_mul (by omega) hl2
      simp only [ws_ife, ws_set, ws_sub, ws_ret_, ws_expr, ws_pass, ws_retn, ws_brk, ws_cnt, x_cmp, x_cmp2, x_ix, x_int, x_bl, x_str, x_non, x_npart, x_bin, x_neg, x_not, x_and, x_or, x_ife, x_lst, x_tup, x_call, x_bi, x_thaw, x_glob, ws_nilE, ws_consE, y_var, List.getElem?_cons_zero, List.getElem?_cons_succ, Option.some.injEq, exists_eq_left', List.set_cons_zero, List.set_cons_succ, c_gt, c_lt, c_le, c_ge, c_eq, c_ne, t_bl, t_int, n_add, n_sub, n_mul, n_mod, n_fdiv, n_pow, n_neg, ix_lst, ix_tup, decide_eq_true_eq, decide_eq_false_iff_not, lc_name, wipe1, Bool.true_eq_false, false_implies, and_true, true_implies]
      exact number D.pick D.number hsize g2 (by omega) fun r μ5 r1 _ _ d5 f5 => ⟨szr (by rw [g1.len]; omega), g1.snoc (Nat.lt_of_le_of_lt r1 p30), d5, g3.trans f5⟩
    · have g1 := hJ.1; have g2 := hJ.2.1; have g3 := hJ.2.2
      refine ⟨szr (by rw [h2]; omega), fun d hd => ?_, by simp [h2], g2.mono ?_, g3⟩
      · rcases List.mem_append.mp hd with hd | hd
        · exact h1 d hd
        · rw [List.mem_singleton.mp hd]
          exact ⟨ac, rfl, by simpa using g1⟩
      · rw [Nat.succ_mul]; simp; omega
  · have h1 := hI.1; have h2 := hI.2.1; have h3 := hI.2.2.1; have h4 := hI.2.2.2
    have : Int.toNat many * long ≤ 20 * 20 := Nat.mul_le_mul (by omega) hl2
    have := rows_of h1
    rw [h2, Int.toNat_natCast] at this
    exact hr _ _ _ this (h3.mono (by omega)) h4
abbrev ev3 (l r0 many long : Nat) (way size : Int) (o5 o6 o8 o9 o10 o11 o12 o13 : Option VM.D) : Ev := [some (.cell l), some (.int many), some (.int long), some (.int way), some (.int size), o5, o6, some (.cell r0), o8, o9, o10, o11, o12, o13]
theorem rows_3 (hm2 : many ≤ 20) (hl2 : long ≤ 20) {way size : Int} (f12 : Fr μ0 μ l) (d2 : Dk μ l N)
    (hn : ∀ μ', St1 μ0 μ' l N many long (fun _ => 1) → Nn (ev3 l (μ0.length + many) many long way size none none none none none none none none) μ') :
    Ws (runS (tb P (n + 2)) b s__law_rows_3 (ev2 l many long way size) μ) Nn Rt Bk Ct X := by
  have hl := d2.lt
  have len2 := f12.len
  unfold s__law_rows_3 ev2
  simp only [ws_ife, ws_set, ws_sub, ws_ret_, ws_expr, ws_pass, ws_retn, ws_brk, ws_cnt, x_cmp, x_cmp2, x_ix, x_int, x_bl, x_str, x_non, x_npart, x_bin, x_neg, x_not, x_and, x_or, x_ife, x_lst, x_tup, x_call, x_bi, x_thaw, x_glob, ws_nilE, ws_consE, y_var, List.getElem?_cons_zero, List.getElem?_cons_succ, Option.some.injEq, exists_eq_left', List.set_cons_zero, List.set_cons_succ, c_gt, c_lt, c_le, c_ge, c_eq, c_ne, t_bl, t_int, n_add, n_sub, n_mul, n_mod, n_fdiv, n_pow, n_neg, ix_lst, ix_tup, decide_eq_true_eq, decide_eq_false_iff_not, x_lc, i_r1, lc_name, wipe1, VM.D.int.injEq, Prod.mk.injEq, VM.D.lst.injEq]
  refine ⟨small_of (by omega) (by omega), ?_⟩
  refine wp_lcRange (fun i acc μ' => μ'.length = μ0.length + i ∧ (∀ k, k < μ0.length → μ'[k]? = μ[k]?) ∧ acc = (List.range i).map (fun k => .cell (μ0.length + k)) ∧ ∀ k, k < i → ∃ xs, μ'[μ0.length + k]? = some (.lst xs) ∧ Ints 1 long xs) ⟨by omega, fun _ _ => rfl, rfl, fun _ h => by omega⟩ (fun i acc μ3 hi hI => ?_) fun acc μ3 hI => ?_
  · have h1 := hI.1; have h2 := hI.2.1; have h3 := hI.2.2.1; have h4 := hI.2.2.2
    simp only [ws_ife, ws_set, ws_sub, ws_ret_, ws_expr, ws_pass, ws_retn, ws_brk, ws_cnt, x_cmp, x_cmp2, x_ix, x_int, x_bl, x_str, x_non, x_npart, x_bin, x_neg, x_not, x_and, x_or, x_ife, x_lst, x_tup, x_call, x_bi, x_thaw, x_glob, ws_nilE, ws_consE, y_var, List.getElem?_cons_zero, List.getElem?_cons_succ, Option.some.injEq, exists_eq_left', List.set_cons_zero, List.set_cons_succ, c_gt, c_lt, c_le, c_ge, c_eq, c_ne, t_bl, t_int, n_add, n_sub, n_mul, n_mod, n_fdiv, n_pow, n_neg, ix_lst, ix_tup, decide_eq_true_eq, decide_eq_false_iff_not, x_lc, i_r1, lc_name, wipe1, VM.D.int.injEq, Bool.true_eq_false, false_implies, and_true, true_implies, Prod.mk.injEq, VM.D.lst.injEq]
    refine ⟨small_of (by omega) (by omega), ?_⟩
    refine wp_lcRange (fun j ac μ' => Ints 1 j ac ∧ μ' = μ3) ⟨.nil, rfl⟩ (fun j ac μ4 hj hJ => ?_) fun ac μ4 hJ => ?_
    · have g1 := hJ.1; have g2 := hJ.2
      subst g2
      simp only [ws_ife, ws_set, ws_sub, ws_ret_, ws_expr, ws_pass, ws_retn, ws_brk, ws_cnt, x_cmp, x_cmp2, x_ix, x_int, x_bl, x_str, x_non, x_npart, x_bin, x_neg, x_not, x_and, x_or, x_ife, x_lst, x_tup, x_call, x_bi, x_thaw, x_glob, ws_nilE, ws_consE, y_var, List.getElem?_cons_zero, List.getElem?_cons_succ, Option.some.injEq, exists_eq_left', List.set_cons_zero, List.set_cons_succ, c_gt, c_lt, c_le, c_ge, c_eq, c_ne, t_bl, t_int, n_add, n_sub, n_mul, n_mod, n_fdiv, n_pow, n_neg, ix_lst, ix_tup, decide_eq_true_eq, decide_eq_false_iff_not, lc_name, wipe1, Bool.true_eq_false, false_implies, and_true, true_implies, bi_int_bl]
      refine ⟨szr (by rw [g1.len]; omega), g1.snoc ?_⟩
      split <;> decide
    · have g1 := hJ.1; have g2 := hJ.2
      subst g2
      refine ⟨ac, 0, ⟨rfl, rfl⟩, szr (by rw [h3]; simp; omega), by simp [h1]; omega, fun k hk => ?_, ?_, fun k hk => ?_⟩
      · rw [List.getElem?_append_left (by omega)]; exact h2 k hk
      · rw [h3, h1, List.range_succ, List.map_append]; rfl
      · by_cases e : k = i
        · rw [e, ← h1, List.getElem?_append_right (Nat.le_refl _)]
          exact ⟨ac, by simp, by simpa using g1⟩
        · obtain ⟨xs, q1, q2⟩ := h4 k (by omega)
          exact ⟨xs, by rw [List.getElem?_append_left (by omega)]; exact q1, q2⟩
  · have h1 := hI.1; have h2 := hI.2.1; have h3 := hI.2.2.1; have h4 := hI.2.2.2
    rw [Int.toNat_natCast] at h1 h3 h4
    refine ⟨acc, 0, ⟨rfl, rfl⟩, ?_⟩
    rw [h1]
    refine hn _ ⟨by simp [h1], fun k hk hn => ?_, ?_, ?_, fun k hk => ?_⟩
    · rw [List.getElem?_append_left (by omega), h2 k hk]; exact f12.at_ k hn
    · obtain ⟨a, bb, c, e, r⟩ := d2
      exact ⟨a, bb, c, by rw [List.getElem?_append_left (by omega), h2 l (by omega)]; exact e, r⟩
    · rw [← h1, List.getElem?_append_right (Nat.le_refl _), h3]; simp
    · obtain ⟨xs, q1, q2⟩ := h4 k hk
      exact ⟨xs, by rw [List.getElem?_append_left (by omega)]; exact q1, q2⟩
end
end VM

set_option Elab.async false
set_option maxRecDepth 10000
set_option autoImplicit false
set_option linter.unusedVariables false
set_option linter.unusedSimpArgs false
/-! rows drawn: the turns -/
namespace VM
open PySem L2
variable {E : Exc → Sto → Prop} {P : Pg} {n b l N : Nat} {μ : Sto}
section
variable {many long : Nat} {Nn Bk Ct : Ev → Sto → Prop} {Rt : VM.D → Nat → Sto → Prop} {X : Exc → Ev → Sto → Prop} {μ0 : Sto}
theorem three {p : Int} (h0 : 0 ≤ p) (h1 : p < 3) : ∃ w : Int, atI [VM.D.int 0, VM.D.int 0, VM.D.int 2] p = some (.int w) ∧ (w = 0 ∨ w = 1 ∨ w = 2) ∧ w ≠ 1 := by
  have : p = 0 ∨ p = 1 ∨ p = 2 := by omega
  rcases this with rfl | rfl | rfl
  · exact ⟨0, at0, .inl rfl, by decide⟩
  · exact ⟨0, at1, .inl rfl, by decide⟩
  · exact ⟨2, at2, .inr (.inr rfl), by decide⟩
theorem rows_4 (D : Dr P) (hm2 : many ≤ 20) (hl1 : 1 ≤ long) (hl2 : long ≤ 20) (hl : l < μ0.length) {way size : Int} (S : St1 μ0 μ l N many long fun _ => 1) (hN : N ≤ 900000)
    (hn : ∀ o5 o6 o8 o9 o10 μ', St1 μ0 μ' l (N + 40) many long (fun _ => 81) → Nn (ev3 l (μ0.length + many) many long way size o5 o6 o8 o9 o10 none none none) μ') :
    Ws (runS (tb P (n + 2)) b s__law_rows_4 (ev3 l (μ0.length + many) many long way size none none none none none none none none) μ) Nn Rt Bk Ct X := by
  unfold s__law_rows_4
  refine ws_forRange ?_
  simp only [ws_ife, ws_set, ws_sub, ws_ret_, ws_expr, ws_pass, ws_retn, ws_brk, ws_cnt, x_cmp, x_cmp2, x_ix, x_int, x_bl, x_str, x_non, x_npart, x_bin, x_neg, x_not, x_and, x_or, x_ife, x_lst, x_tup, x_call, x_bi, x_thaw, x_glob, ws_nilE, ws_consE, y_var, List.getElem?_cons_zero, List.getElem?_cons_succ, Option.some.injEq, exists_eq_left', List.set_cons_zero, List.set_cons_succ, c_gt, c_lt, c_le, c_ge, c_eq, c_ne, t_bl, t_int, n_add, n_sub, n_mul, n_mod, n_fdiv, n_pow, n_neg, ix_lst, ix_tup, decide_eq_true_eq, decide_eq_false_iff_not, i_r1]
  refine pick D.pick S.dk (by omega) (by decide) (by decide) fun p μ1 p0 p1 d1 f1 => ?_
  simp only [ws_ife, ws_set, ws_sub, ws_ret_, ws_expr, ws_pass, ws_retn, ws_brk, ws_cnt, x_cmp, x_cmp2, x_ix, x_int, x_bl, x_str, x_non, x_npart, x_bin, x_neg, x_not, x_and, x_or, x_ife, x_lst, x_tup, x_call, x_bi, x_thaw, x_glob, ws_nilE, ws_consE, y_var, List.getElem?_cons_zero, List.getElem?_cons_succ, Option.some.injEq, exists_eq_left', List.set_cons_zero, List.set_cons_succ, c_gt, c_lt, c_le, c_ge, c_eq, c_ne, t_bl, t_int, n_add, n_sub, n_mul, n_mod, n_fdiv, n_pow, n_neg, ix_lst, ix_tup, decide_eq_true_eq, decide_eq_false_iff_not, VM.D.int.injEq]
  have S1 := S.step hl f1 d1
  refine ⟨small_of (by omega) (by omega), 0, _, fun t ρ' μ' => ∃ o5 o6 o8 o9 o10, ρ' = ev3 l (μ0.length + many) many long way size o5 o6 o8 o9 o10 none none none ∧ St1 μ0 μ' l (N + 1 + 4 * t) many long (fun _ => 1 + 10 * t), rfl, ⟨none, none, none, none, none, rfl, S1⟩, fun t ρ' μ2 ht hI => ?_, fun ρ' μ' hI => ?_⟩
  · obtain ⟨o5, o6, o8, o9, o10, rfl, S2⟩ := hI
    have ht : t < 8 := by omega
    simp only [ev3, ws_ife, ws_set, ws_sub, ws_ret_, ws_expr, ws_pass, ws_retn, ws_brk, ws_cnt, x_cmp, x_cmp2, x_ix, x_int, x_bl, x_str, x_non, x_npart, x_bin, x_neg, x_not, x_and, x_or, x_ife, x_lst, x_tup, x_call, x_bi, x_thaw, x_glob, ws_nilE, ws_consE, y_var, List.getElem?_cons_zero, List.getElem?_cons_succ, Option.some.injEq, exists_eq_left', List.set_cons_zero, List.set_cons_succ, c_gt, c_lt, c_le, c_ge, c_eq, c_ne, t_bl, t_int, n_add, n_sub, n_mul, n_mod, n_fdiv, n_pow, n_neg, ix_lst, ix_tup, decide_eq_true_eq, decide_eq_false_iff_not]
    rw [ws_cons]
    simp only [ws_ife, ws_set, ws_sub, ws_ret_, ws_expr, ws_pass, ws_retn, ws_brk, ws_cnt, x_cmp, x_cmp2, x_ix, x_int, x_bl, x_str, x_non, x_npart, x_bin, x_neg, x_not, x_and, x_or, x_ife, x_lst, x_tup, x_call, x_bi, x_thaw, x_glob, ws_nilE, ws_consE, y_var, List.getElem?_cons_zero, List.getElem?_cons_succ, Option.some.injEq, exists_eq_left', List.set_cons_zero, List.set_cons_succ, c_gt, c_lt, c_le, c_ge, c_eq, c_ne, t_bl, t_int, n_add, n_sub, n_mul, n_mod, n_fdiv, n_pow, n_neg, ix_lst, ix_tup, decide_eq_true_eq, decide_eq_false_iff_not]
    refine pick D.pick S2.dk (by omega) (by omega) (by omega) fun i μ3 i0 i1 d3 f3 => ?_
    have S3 := S2.step hl f3 d3
    simp only [ws_ife, ws_set, ws_sub, ws_ret_, ws_expr, ws_pass, ws_retn, ws_brk, ws_cnt, x_cmp, x_cmp2, x_ix, x_int, x_bl, x_str, x_non, x_npart, x_bin, x_neg, x_not, x_and, x_or, x_ife, x_lst, x_tup, x_call, x_bi, x_thaw, x_glob, ws_nilE, ws_consE, y_var, List.getElem?_cons_zero, List.getElem?_cons_succ, Option.some.injEq, exists_eq_left', List.set_cons_zero, List.set_cons_succ, c_gt, c_lt, c_le, c_ge, c_eq, c_ne, t_bl, t_int, n_add, n_sub, n_mul, n_mod, n_fdiv, n_pow, n_neg, ix_lst, ix_tup, decide_eq_true_eq, decide_eq_false_iff_not]
    rw [ws_cons]
    simp only [ws_ife, ws_set, ws_sub, ws_ret_, ws_expr, ws_pass, ws_retn, ws_brk, ws_cnt, x_cmp, x_cmp2, x_ix, x_int, x_bl, x_str, x_non, x_npart, x_bin, x_neg, x_not, x_and, x_or, x_ife, x_lst, x_tup, x_call, x_bi, x_thaw, x_glob, ws_nilE, ws_consE, y_var, List.getElem?_cons_zero, List.getElem?_cons_succ, Option.some.injEq, exists_eq_left', List.set_cons_zero, List.set_cons_succ, c_gt, c_lt, c_le, c_ge, c_eq, c_ne, t_bl, t_int, n_add, n_sub, n_mul, n_mod, n_fdiv, n_pow, n_neg, ix_lst, ix_tup, decide_eq_true_eq, decide_eq_false_iff_not]
    refine pick D.pick S3.dk (by omega) (by omega) (by omega) fun j μ4 j0 j1 d4 f4 => ?_
    have S4 := S3.step hl f4 d4
    simp only [ws_ife, ws_set, ws_sub, ws_ret_, ws_expr, ws_pass, ws_retn, ws_brk, ws_cnt, x_cmp, x_cmp2, x_ix, x_int, x_bl, x_str, x_non, x_npart, x_bin, x_neg, x_not, x_and, x_or, x_ife, x_lst, x_tup, x_call, x_bi, x_thaw, x_glob, ws_nilE, ws_consE, y_var, List.getElem?_cons_zero, List.getElem?_cons_succ, Option.some.injEq, exists_eq_left', List.set_cons_zero, List.set_cons_succ, c_gt, c_lt, c_le, c_ge, c_eq, c_ne, t_bl, t_int, n_add, n_sub, n_mul, n_mod, n_fdiv, n_pow, n_neg, ix_lst, ix_tup, decide_eq_true_eq, decide_eq_false_iff_not]
    rw [ws_cons]
    simp only [ws_ife, ws_set, ws_sub, ws_ret_, ws_expr, ws_pass, ws_retn, ws_brk, ws_cnt, x_cmp, x_cmp2, x_ix, x_int, x_bl, x_str, x_non, x_npart, x_bin, x_neg, x_not, x_and, x_or, x_ife, x_lst, x_tup, x_call, x_bi, x_thaw, x_glob, ws_nilE, ws_consE, y_var, List.getElem?_cons_zero, List.getElem?_cons_succ, Option.some.injEq, exists_eq_left', List.set_cons_zero, List.set_cons_succ, c_gt, c_lt, c_le, c_ge, c_eq, c_ne, t_bl, t_int, n_add, n_sub, n_mul, n_mod, n_fdiv, n_pow, n_neg, ix_lst, ix_tup, decide_eq_true_eq, decide_eq_false_iff_not, List.length_cons, List.length_nil]
    refine ⟨by decide, pick D.pick S4.dk (by omega) (by decide) (by decide) fun p μ5 p0 p1 d5 f5 => ?_⟩
    have S5 := S4.step hl f5 d5
    obtain ⟨w, hw, hw2, hw3⟩ := three p0 p1
    simp only [ws_ife, ws_set, ws_sub, ws_ret_, ws_expr, ws_pass, ws_retn, ws_brk, ws_cnt, x_cmp, x_cmp2, x_ix, x_int, x_bl, x_str, x_non, x_npart, x_bin, x_neg, x_not, x_and, x_or, x_ife, x_lst, x_tup, x_call, x_bi, x_thaw, x_glob, ws_nilE, ws_consE, y_var, List.getElem?_cons_zero, List.getElem?_cons_succ, Option.some.injEq, exists_eq_left', List.set_cons_zero, List.set_cons_succ, c_gt, c_lt, c_le, c_ge, c_eq, c_ne, t_bl, t_int, n_add, n_sub, n_mul, n_mod, n_fdiv, n_pow, n_neg, ix_lst, ix_tup, decide_eq_true_eq, decide_eq_false_iff_not, hw]
    refine number D.pick D.number hw2 S5.dk (by omega) fun sh μ6 _ s1 _ d6 f6 => ?_
    have S6 := S5.step hl f6 d6
    have s1 := s1 hw3
    simp only [ws_ife, ws_set, ws_sub, ws_ret_, ws_expr, ws_pass, ws_retn, ws_brk, ws_cnt, x_cmp, x_cmp2, x_ix, x_int, x_bl, x_str, x_non, x_npart, x_bin, x_neg, x_not, x_and, x_or, x_ife, x_lst, x_tup, x_call, x_bi, x_thaw, x_glob, ws_nilE, ws_consE, y_var, List.getElem?_cons_zero, List.getElem?_cons_succ, Option.some.injEq, exists_eq_left', List.set_cons_zero, List.set_cons_succ, c_gt, c_lt, c_le, c_ge, c_eq, c_ne, t_bl, t_int, n_add, n_sub, n_mul, n_mod, n_fdiv, n_pow, n_neg, ix_lst, ix_tup, decide_eq_true_eq, decide_eq_false_iff_not]
    rw [ws_cons]
    refine ws_for ?_
    simp only [ws_ife, ws_set, ws_sub, ws_ret_, ws_expr, ws_pass, ws_retn, ws_brk, ws_cnt, x_cmp, x_cmp2, x_ix, x_int, x_bl, x_str, x_non, x_npart, x_bin, x_neg, x_not, x_and, x_or, x_ife, x_lst, x_tup, x_call, x_bi, x_thaw, x_glob, ws_nilE, ws_consE, y_var, List.getElem?_cons_zero, List.getElem?_cons_succ, Option.some.injEq, exists_eq_left', List.set_cons_zero, List.set_cons_succ, c_gt, c_lt, c_le, c_ge, c_eq, c_ne, t_bl, t_int, n_add, n_sub, n_mul, n_mod, n_fdiv, n_pow, n_neg, ix_lst, ix_tup, decide_eq_true_eq, decide_eq_false_iff_not, i_exD, srcIt_cell S6.rws]
    refine ⟨_, fun k ρ' μ' => ∃ o10, ρ' = ev3 l (μ0.length + many) many long way size (some (.int i)) (some (.int j)) (some (.int (0 + (t : Int)))) (some (.int sh)) o10 none none none ∧ St1 μ0 μ' l (N + 1 + 4 * t + 1 + 1 + 1 + 1) many long (fun c => if c < k then 1 + 10 * (t + 1) else 1 + 10 * t),
      fun k ρ' μ' hJ => ?_, size_cell S6.rws, ⟨o10, rfl, S6.mono (Nat.le_refl _) fun k _ => by simp⟩, fun k x ρ' μ7 hx hJ => ?_, fun ρ' μ' hJ => ?_⟩
    · obtain ⟨o10, _, SJ⟩ := hJ
      exact src_cell SJ.rws k
    · obtain ⟨o10, rfl, SJ⟩ := hJ
      rw [List.getElem?_map] at hx
      obtain ⟨c, hc, rfl⟩ := map_some hx
      obtain ⟨hk, hc⟩ := List.getElem?_eq_some_iff.mp hc
      rw [List.length_range] at hk
      rw [List.getElem_range] at hc
      subst hc
      obtain ⟨xs, hxs, q⟩ := SJ.row k hk
      have q : Ints (1 + 10 * t) long xs := by simpa using q
      obtain ⟨vi, hvi, bi⟩ := q.atI i0 i1
      obtain ⟨vj, hvj, bj⟩ := q.atI j0 j1
      have hset : ∀ v : Int, setD b (.cell (μ0.length + k)) (.int j) (.int v) μ7 = some (μ7.set (μ0.length + k) (.lst (xs.set j.toNat (.int v)))) := fun v => set_cell hxs (ixN_ok j0 (by rw [q.len]; exact j1)) put_int
      have b1 : sh.natAbs < 2 ^ 6 := by omega
      have b2 := mulB b1 bi
      have lt1 : 6 + (1 + 10 * t) < 130000000 - 1 := by omega
      have b3 : ((if i ≠ j then 1 else 0 : Int)).natAbs < 2 ^ 1 := by split <;> decide
      simp only [ev3, ws_cons, ws_nil, ws_ife, ws_set, ws_sub, ws_ret_, ws_expr, ws_pass, ws_retn, ws_brk, ws_cnt, x_cmp, x_cmp2, x_ix, x_int, x_bl, x_str, x_non, x_npart, x_bin, x_neg, x_not, x_and, x_or, x_ife, x_lst, x_tup, x_call, x_bi, x_thaw, x_glob, ws_nilE, ws_consE, y_var, List.getElem?_cons_zero, List.getElem?_cons_succ, Option.some.injEq, exists_eq_left', List.set_cons_zero, List.set_cons_succ, c_gt, c_lt, c_le, c_ge, c_eq, c_ne, t_bl, t_int, n_add, n_sub, n_mul, n_mod, n_fdiv, n_pow, n_neg, ix_lst, ix_tup, decide_eq_true_eq, decide_eq_false_iff_not, ix_cell hxs, hvi, hvj, bi_int_bl, hset]
      refine ⟨lgm b1 bi (Nat.lt_of_lt_of_le lt1 (by decide)), lgm b2 b3 (Nat.add_lt_of_lt_sub lt1), some (.cell (μ0.length + k)), rfl, (SJ.upd hl hk (q.mono (C := 1 + 10 * (t + 1)) (by omega) |>.set ?_)).mono (Nat.le_refl _) fun c _ => ?_⟩
      · have b4 := mulB b2 b3
        exact powM (addB (powM bj (by omega : 1 + 10 * t ≤ 8 + 10 * t)) (powM b4 (by omega))) (by omega)
      · by_cases e : c = k
        · rw [if_pos e, if_pos (by omega)]; exact Nat.le_refl _
        · rw [if_neg e]
          by_cases e2 : c < k
          · rw [if_pos e2, if_pos (by omega)]; exact Nat.le_refl _
          · rw [if_neg e2, if_neg (by omega)]; exact Nat.le_refl _
    · obtain ⟨o10, rfl, SJ⟩ := hJ
      simp only [List.length_map, List.length_range] at SJ
      rw [ws_nil]
      exact ⟨_, _, _, _, o10, rfl, SJ.mono (by omega) fun k hk => by simp only [hk, if_true]; exact Nat.le_refl _⟩
  · obtain ⟨o5, o6, o8, o9, o10, rfl, S2⟩ := hI
    exact hn _ _ _ _ _ _ (S2.mono (by omega) fun _ _ => by omega)
end
end VM

set_option Elab.async false
set_option maxRecDepth 10000
set_option autoImplicit false
set_option linter.unusedVariables false
set_option linter.unusedSimpArgs false
/-! rows drawn: what comes behind the turns -/
namespace VM
open PySem L2
variable {E : Exc → Sto → Prop} {P : Pg} {n b l N : Nat} {μ : Sto}
theorem src_of {d : VM.D} {xs : List VM.D} (h : itemsL μ d = some xs) : ∃ s, srcL μ d = some s ∧ (∀ i, s.at μ i = nxO xs[i]?) ∧ s.size μ = xs.length := by
  cases d with
  | lst ys => cases h; exact ⟨.data xs, rfl, fun _ => rfl, rfl⟩
  | cell c =>
    have h : (match μ[c]? with | some (C.lst xs) => some xs | _ => none) = some xs := h
    split at h
    · rename_i ys hy
      cases h
      exact ⟨.cell c, srcL_cell hy, fun i => src_cell hy i, size_cell hy⟩
    · cases h
  | _ => cases h
theorem srcIt_of {d : VM.D} {xs : List VM.D} {s : Src} (h : itemsL μ d = some xs) (k : srcL μ d = some s) : srcIt μ d = some s := by
  cases d <;> first | exact k | cases h
theorem at_mem {α : Type} {xs : List α} {i : Int} (h0 : -(xs.length : Int) ≤ i) (h1 : i < xs.length) : ∃ d, L2.atI xs i = some d ∧ d ∈ xs := by
  unfold L2.atI ixN
  by_cases h : 0 ≤ i
  · rw [if_pos h, if_pos h1]
    have : i.toNat < xs.length := by omega
    exact ⟨xs[i.toNat], by show xs[i.toNat]? = _; rw [List.getElem?_eq_getElem this], List.getElem_mem this⟩
  · rw [if_neg h, if_pos h0]
    have : (i + xs.length).toNat < xs.length := by omega
    exact ⟨xs[(i + xs.length).toNat], by show xs[(i + xs.length).toNat]? = _; rw [List.getElem?_eq_getElem this], List.getElem_mem this⟩
theorem wp_lcInts {F : VM.D → Sto → R (Option VM.D)} {src : Src} {xs : List VM.D} {Q : List VM.D → Sto → Prop} {B C long : Nat} (q : Ints B long xs) (hz : long < 1000) (hsrc : ∀ i, src.at μ i = nxO xs[i]?) (hsz : src.size μ = xs.length)
    (hs : ∀ x : Int, x.natAbs < 2 ^ B → Wp (F (.int x) μ) (fun y μ2 => μ2 = μ ∧ ∃ z : Int, y = some (.int z) ∧ z.natAbs < 2 ^ C) E) (he : ∀ ys, Ints C long ys → Q ys μ) : Wp (lcLoop F src (src.size μ + 1) 0 [] μ) Q E := by
  refine wp_lcLoop (xs := xs) (fun i acc μ' => μ' = μ ∧ Ints C i acc) (fun i acc μ' h => by rw [h.1]; exact hsrc i) hsz ⟨rfl, .nil⟩ (fun i x acc μ' hx hI => ?_) fun acc μ' hI => ?_
  · obtain ⟨rfl, h⟩ := hI
    obtain ⟨z, rfl, hz'⟩ := q.mem (List.mem_of_getElem? hx)
    have hi := (List.getElem?_eq_some_iff.mp hx).1
    rw [q.len] at hi
    refine wp_mono (hs z hz') (fun y μ2 hy => ?_) fun _ _ h => h
    obtain ⟨rfl, w, rfl, hw⟩ := hy
    exact ⟨szr (by rw [h.len]; omega), rfl, h.snoc hw⟩
  · obtain ⟨rfl, h⟩ := hI
    rw [q.len] at h
    exact he acc h
theorem wp_lcInts2 {F : VM.D → Sto → R (Option VM.D)} {s1 s2 : Src} {xs ys : List VM.D} {Q : List VM.D → Sto → Prop} {B C long : Nat} (q : Ints B long xs) (q2 : Ints B long ys) (hz : long < 1000) (hs1 : ∀ i, s1.at μ i = nxO xs[i]?) (hz1 : s1.size μ = xs.length) (hs2 : ∀ i, s2.at μ i = nxO ys[i]?) (hz2 : s2.size μ = ys.length)
    (hs : ∀ x y : Int, x.natAbs < 2 ^ B → y.natAbs < 2 ^ B → Wp (F (.tup [.int x, .int y]) μ) (fun y μ2 => μ2 = μ ∧ ∃ z : Int, y = some (.int z) ∧ z.natAbs < 2 ^ C) E) (he : ∀ ys, Ints C long ys → Q ys μ) : Wp (lcLoop F (.zip s1 s2) ((Src.zip s1 s2).size μ + 1) 0 [] μ) Q E := by
  have lz : (xs.zipWith (fun x y => VM.D.tup [x, y]) ys).length = long := by rw [List.length_zipWith, q.len, q2.len, Nat.min_self]
  refine wp_lcLoop (xs := xs.zipWith (fun x y => VM.D.tup [x, y]) ys) (fun i acc μ' => μ' = μ ∧ Ints C i acc) (fun i acc μ' h => by rw [h.1]; exact src_zip (hs1 i) (hs2 i)) (by show min (s1.size μ) (s2.size μ) = _; rw [hz1, hz2, List.length_zipWith]) ⟨rfl, .nil⟩ (fun i x acc μ' hx hI => ?_) fun acc μ' hI => ?_
  · obtain ⟨rfl, h⟩ := hI
    have hi := (List.getElem?_eq_some_iff.mp hx).1
    rw [lz] at hi
    obtain ⟨u, hu, bu⟩ := q.get hi
    obtain ⟨v, hv, bv⟩ := q2.get hi
    rw [List.getElem?_zipWith, hu, hv] at hx
    cases hx
    refine wp_mono (hs u v bu bv) (fun y μ2 hy => ?_) fun _ _ h => h
    obtain ⟨rfl, w, rfl, hw⟩ := hy
    exact ⟨szr (by rw [h.len]; omega), rfl, h.snoc hw⟩
  · obtain ⟨rfl, h⟩ := hI
    rw [lz] at h
    exact he acc h
section
variable {many long : Nat} {Nn Bk Ct : Ev → Sto → Prop} {Rt : VM.D → Nat → Sto → Prop} {X : Exc → Ev → Sto → Prop} {μ0 : Sto}
theorem St2.putS {B : Nat} (h : St2 μ0 μ l N many long B) (hl : l < μ0.length) (hb : b ≤ μ0.length + many) {ys : List VM.D} (q : Ints B long ys) {at_ : Int} (h0 : 0 ≤ at_) (h1 : at_ < many) :
    ∃ μ', setD b (.cell (μ0.length + many)) (.int at_) (.lst ys) μ = some μ' ∧ St2 μ0 μ' l N many long B := by
  obtain ⟨ds, e, e2, h'⟩ := h.put hl (k := at_.toNat) q
  exact ⟨_, set_cell e (ixN_ok h0 (by rw [e2]; exact h1)) (by unfold mayPut; simp [hb]), h'⟩
theorem rows_5 (D : Dr P) (hm1 : 1 ≤ many) (hm2 : many ≤ 12) (hl : l < μ0.length) {B : Nat} {way size : Int} {o5 o6 o8 o9 o10 o11 o12 o13 : Option VM.D} (S : St2 μ0 μ l N many long B) (hN : N ≤ 900000)
    (hn : ∀ (at_ : Int) μ', 0 ≤ at_ → at_ < many → St2 μ0 μ' l (N + 1) many long B → Nn (ev3 l (μ0.length + many) many long way size o5 o6 o8 o9 o10 (some (.int at_)) o12 o13) μ') :
    Ws (runS (tb P (n + 2)) b s__law_rows_5 (ev3 l (μ0.length + many) many long way size o5 o6 o8 o9 o10 o11 o12 o13) μ) Nn Rt Bk Ct X := by
  unfold s__law_rows_5
  simp only [ws_ife, ws_set, ws_sub, ws_ret_, ws_expr, ws_pass, ws_retn, ws_brk, ws_cnt, x_cmp, x_cmp2, x_ix, x_int, x_bl, x_str, x_non, x_npart, x_bin, x_neg, x_not, x_and, x_or, x_ife, x_lst, x_tup, x_call, x_bi, x_thaw, x_glob, ws_nilE, ws_consE, y_var, List.getElem?_cons_zero, List.getElem?_cons_succ, Option.some.injEq, exists_eq_left', List.set_cons_zero, List.set_cons_succ, c_gt, c_lt, c_le, c_ge, c_eq, c_ne, t_bl, t_int, n_add, n_sub, n_mul, n_mod, n_fdiv, n_pow, n_neg, ix_lst, ix_tup, decide_eq_true_eq, decide_eq_false_iff_not]
  refine pick D.pick S.dk (by omega) (by omega) (by omega) fun p μ1 p0 p1 d1 f1 => ?_
  simp only [ws_ife, ws_set, ws_sub, ws_ret_, ws_expr, ws_pass, ws_retn, ws_brk, ws_cnt, x_cmp, x_cmp2, x_ix, x_int, x_bl, x_str, x_non, x_npart, x_bin, x_neg, x_not, x_and, x_or, x_ife, x_lst, x_tup, x_call, x_bi, x_thaw, x_glob, ws_nilE, ws_consE, y_var, List.getElem?_cons_zero, List.getElem?_cons_succ, Option.some.injEq, exists_eq_left', List.set_cons_zero, List.set_cons_succ, c_gt, c_lt, c_le, c_ge, c_eq, c_ne, t_bl, t_int, n_add, n_sub, n_mul, n_mod, n_fdiv, n_pow, n_neg, ix_lst, ix_tup, decide_eq_true_eq, decide_eq_false_iff_not]
  exact hn _ _ p0 p1 (S.step hl f1 d1)
theorem rows_6 (D : Dr P) (hm1 : 1 ≤ many) (hm2 : many ≤ 12) (hl2 : long ≤ 20) (hl : l < μ0.length) (hb : b ≤ μ0.length + many) {B : Nat} (hB : B < 1000) {way size at_ : Int} {o5 o6 o8 o9 o10 o12 o13 : Option VM.D} (S : St2 μ0 μ l N many long B) (hN : N ≤ 900000) (a0 : 0 ≤ at_) (a1 : at_ < many)
    (hn : ∀ o9 μ', St2 μ0 μ' l (N + 2) many long (B + 4) → Nn (ev3 l (μ0.length + many) many long way size o5 o6 o8 o9 o10 (some (.int at_)) o12 o13) μ') :
    Ws (runS (tb P (n + 2)) b s__law_rows_6 (ev3 l (μ0.length + many) many long way size o5 o6 o8 o9 o10 (some (.int at_)) o12 o13) μ) Nn Rt Bk Ct X := by
  unfold s__law_rows_6
  simp only [ev3, ws_ife, ws_set, ws_sub, ws_ret_, ws_expr, ws_pass, ws_retn, ws_brk, ws_cnt, x_cmp, x_cmp2, x_ix, x_int, x_bl, x_str, x_non, x_npart, x_bin, x_neg, x_not, x_and, x_or, x_ife, x_lst, x_tup, x_call, x_bi, x_thaw, x_glob, ws_nilE, ws_consE, y_var, List.getElem?_cons_zero, List.getElem?_cons_succ, Option.some.injEq, exists_eq_left', List.set_cons_zero, List.set_cons_succ, c_gt, c_lt, c_le, c_ge, c_eq, c_ne, t_bl, t_int, n_add, n_sub, n_mul, n_mod, n_fdiv, n_pow, n_neg, ix_lst, ix_tup, decide_eq_true_eq, decide_eq_false_iff_not, ws_nil]
  refine ⟨fun _ => ?_, fun _ => hn _ _ (S.mono (by omega) (by omega))⟩
  rw [ws_cons]
  simp only [ws_ife, ws_set, ws_sub, ws_ret_, ws_expr, ws_pass, ws_retn, ws_brk, ws_cnt, x_cmp, x_cmp2, x_ix, x_int, x_bl, x_str, x_non, x_npart, x_bin, x_neg, x_not, x_and, x_or, x_ife, x_lst, x_tup, x_call, x_bi, x_thaw, x_glob, ws_nilE, ws_consE, y_var, List.getElem?_cons_zero, List.getElem?_cons_succ, Option.some.injEq, exists_eq_left', List.set_cons_zero, List.set_cons_succ, c_gt, c_lt, c_le, c_ge, c_eq, c_ne, t_bl, t_int, n_add, n_sub, n_mul, n_mod, n_fdiv, n_pow, n_neg, ix_lst, ix_tup, decide_eq_true_eq, decide_eq_false_iff_not]
  refine number D.pick D.number (.inl rfl) S.dk (by omega) fun r μ1 _ _ r1 d1 f1 => ?_
  have r1 := r1 rfl
  have S1 := S.step hl f1 d1
  simp only [ws_ife, ws_set, ws_sub, ws_ret_, ws_expr, ws_pass, ws_retn, ws_brk, ws_cnt, x_cmp, x_cmp2, x_ix, x_int, x_bl, x_str, x_non, x_npart, x_bin, x_neg, x_not, x_and, x_or, x_ife, x_lst, x_tup, x_call, x_bi, x_thaw, x_glob, ws_nilE, ws_consE, y_var, List.getElem?_cons_zero, List.getElem?_cons_succ, Option.some.injEq, exists_eq_left', List.set_cons_zero, List.set_cons_succ, c_gt, c_lt, c_le, c_ge, c_eq, c_ne, t_bl, t_int, n_add, n_sub, n_mul, n_mod, n_fdiv, n_pow, n_neg, ix_lst, ix_tup, decide_eq_true_eq, decide_eq_false_iff_not]
  refine ⟨lgm (p := 2) (q := 3) (by omega) (by decide) (by decide), pick D.pick S1.dk (by omega) (by decide) (by decide) fun p μ2 p0 p1 d2 f2 => ?_⟩
  have S2 := S1.step hl f2 d2
  simp only [ws_ife, ws_set, ws_sub, ws_ret_, ws_expr, ws_pass, ws_retn, ws_brk, ws_cnt, x_cmp, x_cmp2, x_ix, x_int, x_bl, x_str, x_non, x_npart, x_bin, x_neg, x_not, x_and, x_or, x_ife, x_lst, x_tup, x_call, x_bi, x_thaw, x_glob, ws_nilE, ws_consE, y_var, List.getElem?_cons_zero, List.getElem?_cons_succ, Option.some.injEq, exists_eq_left', List.set_cons_zero, List.set_cons_succ, c_gt, c_lt, c_le, c_ge, c_eq, c_ne, t_bl, t_int, n_add, n_sub, n_mul, n_mod, n_fdiv, n_pow, n_neg, ix_lst, ix_tup, decide_eq_true_eq, decide_eq_false_iff_not]
  rw [ws_cons]
  obtain ⟨ds, e, e2, e3⟩ := S2.rws
  obtain ⟨d, hd, hm⟩ := at_mem (xs := ds) (i := at_) (by omega) (by rw [e2]; exact a1)
  obtain ⟨xs, h1, q, _⟩ := e3 d hm
  obtain ⟨s, hs1, hs2, hs3⟩ := src_of h1
  have hs := srcIt_of h1 hs1
  simp only [ws_ife, ws_set, ws_sub, ws_ret_, ws_expr, ws_pass, ws_retn, ws_brk, ws_cnt, x_cmp, x_cmp2, x_ix, x_int, x_bl, x_str, x_non, x_npart, x_bin, x_neg, x_not, x_and, x_or, x_ife, x_lst, x_tup, x_call, x_bi, x_thaw, x_glob, ws_nilE, ws_consE, y_var, List.getElem?_cons_zero, List.getElem?_cons_succ, Option.some.injEq, exists_eq_left', List.set_cons_zero, List.set_cons_succ, c_gt, c_lt, c_le, c_ge, c_eq, c_ne, t_bl, t_int, n_add, n_sub, n_mul, n_mod, n_fdiv, n_pow, n_neg, ix_lst, ix_tup, decide_eq_true_eq, decide_eq_false_iff_not, x_lc, i_exD, ix_cell e, hd, hs, ws_nil]
  have hb2 : (r * 2 + p).natAbs < 2 ^ 3 := by omega
  refine wp_lcInts (C := B + 4) q (by omega) hs2 hs3 (fun x hx => ?_) fun ys hy => ?_
  · simp only [ws_ife, ws_set, ws_sub, ws_ret_, ws_expr, ws_pass, ws_retn, ws_brk, ws_cnt, x_cmp, x_cmp2, x_ix, x_int, x_bl, x_str, x_non, x_npart, x_bin, x_neg, x_not, x_and, x_or, x_ife, x_lst, x_tup, x_call, x_bi, x_thaw, x_glob, ws_nilE, ws_consE, y_var, List.getElem?_cons_zero, List.getElem?_cons_succ, Option.some.injEq, exists_eq_left', List.set_cons_zero, List.set_cons_succ, c_gt, c_lt, c_le, c_ge, c_eq, c_ne, t_bl, t_int, n_add, n_sub, n_mul, n_mod, n_fdiv, n_pow, n_neg, ix_lst, ix_tup, decide_eq_true_eq, decide_eq_false_iff_not, lc_name, wipe1, Bool.true_eq_false, false_implies, and_true, true_implies, true_and]
    refine ⟨lgm hb2 hx (by omega), _, rfl, powM (mulB hb2 hx) (by omega)⟩
  · obtain ⟨μ', h2, h3⟩ := (S2.mono (Nat.le_refl _) (by omega : B ≤ B + 4)).putS hl hb hy a0 a1
    simp only [ws_ife, ws_set, ws_sub, ws_ret_, ws_expr, ws_pass, ws_retn, ws_brk, ws_cnt, x_cmp, x_cmp2, x_ix, x_int, x_bl, x_str, x_non, x_npart, x_bin, x_neg, x_not, x_and, x_or, x_ife, x_lst, x_tup, x_call, x_bi, x_thaw, x_glob, ws_nilE, ws_consE, y_var, List.getElem?_cons_zero, List.getElem?_cons_succ, Option.some.injEq, exists_eq_left', List.set_cons_zero, List.set_cons_succ, c_gt, c_lt, c_le, c_ge, c_eq, c_ne, t_bl, t_int, n_add, n_sub, n_mul, n_mod, n_fdiv, n_pow, n_neg, ix_lst, ix_tup, decide_eq_true_eq, decide_eq_false_iff_not, h2]
    exact hn _ _ (h3.mono (by omega) (Nat.le_refl _))
theorem rows_7 (D : Dr P) (hm1 : 1 ≤ many) (hm2 : many ≤ 12) (hl2 : long ≤ 20) (hl : l < μ0.length) (hb : b ≤ μ0.length + many) {B : Nat} (hB : B < 1000) {way size at_ : Int} {o5 o6 o8 o9 o10 o12 o13 : Option VM.D} (S : St2 μ0 μ l N many long B) (hN : N ≤ 900000)
    (hn : ∀ o5 o6 o8 o9 μ', St2 μ0 μ' l (N + 100) many long (B + 96) → Nn (ev3 l (μ0.length + many) many long way size o5 o6 o8 o9 o10 (some (.int at_)) o12 o13) μ') :
    Ws (runS (tb P (n + 2)) b s__law_rows_7 (ev3 l (μ0.length + many) many long way size o5 o6 o8 o9 o10 (some (.int at_)) o12 o13) μ) Nn Rt Bk Ct X := by
  unfold s__law_rows_7
  refine ws_forRange ?_
  simp only [ev3, ws_ife, ws_set, ws_sub, ws_ret_, ws_expr, ws_pass, ws_retn, ws_brk, ws_cnt, x_cmp, x_cmp2, x_ix, x_int, x_bl, x_str, x_non, x_npart, x_bin, x_neg, x_not, x_and, x_or, x_ife, x_lst, x_tup, x_call, x_bi, x_thaw, x_glob, ws_nilE, ws_consE, y_var, List.getElem?_cons_zero, List.getElem?_cons_succ, Option.some.injEq, exists_eq_left', List.set_cons_zero, List.set_cons_succ, c_gt, c_lt, c_le, c_ge, c_eq, c_ne, t_bl, t_int, n_add, n_sub, n_mul, n_mod, n_fdiv, n_pow, n_neg, ix_lst, ix_tup, decide_eq_true_eq, decide_eq_false_iff_not, i_r1]
  refine ⟨lgm (p := 3) (q := 5) (by decide) (by omega) (by decide), ?_⟩
  refine pick D.pick S.dk (by omega) (by omega) (by omega) fun p μ1 p0 p1 d1 f1 => ?_
  simp only [ws_ife, ws_set, ws_sub, ws_ret_, ws_expr, ws_pass, ws_retn, ws_brk, ws_cnt, x_cmp, x_cmp2, x_ix, x_int, x_bl, x_str, x_non, x_npart, x_bin, x_neg, x_not, x_and, x_or, x_ife, x_lst, x_tup, x_call, x_bi, x_thaw, x_glob, ws_nilE, ws_consE, y_var, List.getElem?_cons_zero, List.getElem?_cons_succ, Option.some.injEq, exists_eq_left', List.set_cons_zero, List.set_cons_succ, c_gt, c_lt, c_le, c_ge, c_eq, c_ne, t_bl, t_int, n_add, n_sub, n_mul, n_mod, n_fdiv, n_pow, n_neg, ix_lst, ix_tup, decide_eq_true_eq, decide_eq_false_iff_not, VM.D.int.injEq]
  have S1 := S.step hl f1 d1
  refine ⟨small_of (by omega) (by omega), 0, _, fun t ρ' μ' => ∃ o5 o6 o8 o9, ρ' = ev3 l (μ0.length + many) many long way size o5 o6 o8 o9 o10 (some (.int at_)) o12 o13 ∧ St2 μ0 μ' l (N + 1 + 4 * t) many long (B + 4 * t), rfl, ⟨_, _, _, _, rfl, S1⟩, fun t ρ' μ2 ht hI => ?_, fun ρ' μ' hI => ?_⟩
  · obtain ⟨o5, o6, o8, o9, rfl, S2⟩ := hI
    have ht : t < 24 := by omega
    simp only [ev3, ws_ife, ws_set, ws_sub, ws_ret_, ws_expr, ws_pass, ws_retn, ws_brk, ws_cnt, x_cmp, x_cmp2, x_ix, x_int, x_bl, x_str, x_non, x_npart, x_bin, x_neg, x_not, x_and, x_or, x_ife, x_lst, x_tup, x_call, x_bi, x_thaw, x_glob, ws_nilE, ws_consE, y_var, List.getElem?_cons_zero, List.getElem?_cons_succ, Option.some.injEq, exists_eq_left', List.set_cons_zero, List.set_cons_succ, c_gt, c_lt, c_le, c_ge, c_eq, c_ne, t_bl, t_int, n_add, n_sub, n_mul, n_mod, n_fdiv, n_pow, n_neg, ix_lst, ix_tup, decide_eq_true_eq, decide_eq_false_iff_not]
    rw [ws_cons]
    simp only [ws_ife, ws_set, ws_sub, ws_ret_, ws_expr, ws_pass, ws_retn, ws_brk, ws_cnt, x_cmp, x_cmp2, x_ix, x_int, x_bl, x_str, x_non, x_npart, x_bin, x_neg, x_not, x_and, x_or, x_ife, x_lst, x_tup, x_call, x_bi, x_thaw, x_glob, ws_nilE, ws_consE, y_var, List.getElem?_cons_zero, List.getElem?_cons_succ, Option.some.injEq, exists_eq_left', List.set_cons_zero, List.set_cons_succ, c_gt, c_lt, c_le, c_ge, c_eq, c_ne, t_bl, t_int, n_add, n_sub, n_mul, n_mod, n_fdiv, n_pow, n_neg, ix_lst, ix_tup, decide_eq_true_eq, decide_eq_false_iff_not]
    refine pick D.pick S2.dk (by omega) (by omega) (by omega) fun i μ3 i0 i1 d3 f3 => ?_
    have S3 := S2.step hl f3 d3
    simp only [ws_ife, ws_set, ws_sub, ws_ret_, ws_expr, ws_pass, ws_retn, ws_brk, ws_cnt, x_cmp, x_cmp2, x_ix, x_int, x_bl, x_str, x_non, x_npart, x_bin, x_neg, x_not, x_and, x_or, x_ife, x_lst, x_tup, x_call, x_bi, x_thaw, x_glob, ws_nilE, ws_consE, y_var, List.getElem?_cons_zero, List.getElem?_cons_succ, Option.some.injEq, exists_eq_left', List.set_cons_zero, List.set_cons_succ, c_gt, c_lt, c_le, c_ge, c_eq, c_ne, t_bl, t_int, n_add, n_sub, n_mul, n_mod, n_fdiv, n_pow, n_neg, ix_lst, ix_tup, decide_eq_true_eq, decide_eq_false_iff_not]
    rw [ws_cons]
    simp only [ws_ife, ws_set, ws_sub, ws_ret_, ws_expr, ws_pass, ws_retn, ws_brk, ws_cnt, x_cmp, x_cmp2, x_ix, x_int, x_bl, x_str, x_non, x_npart, x_bin, x_neg, x_not, x_and, x_or, x_ife, x_lst, x_tup, x_call, x_bi, x_thaw, x_glob, ws_nilE, ws_consE, y_var, List.getElem?_cons_zero, List.getElem?_cons_succ, Option.some.injEq, exists_eq_left', List.set_cons_zero, List.set_cons_succ, c_gt, c_lt, c_le, c_ge, c_eq, c_ne, t_bl, t_int, n_add, n_sub, n_mul, n_mod, n_fdiv, n_pow, n_neg, ix_lst, ix_tup, decide_eq_true_eq, decide_eq_false_iff_not]
    refine pick D.pick S3.dk (by omega) (by omega) (by omega) fun j μ4 j0 j1 d4 f4 => ?_
    have S4 := S3.step hl f4 d4
    simp only [ws_ife, ws_set, ws_sub, ws_ret_, ws_expr, ws_pass, ws_retn, ws_brk, ws_cnt, x_cmp, x_cmp2, x_ix, x_int, x_bl, x_str, x_non, x_npart, x_bin, x_neg, x_not, x_and, x_or, x_ife, x_lst, x_tup, x_call, x_bi, x_thaw, x_glob, ws_nilE, ws_consE, y_var, List.getElem?_cons_zero, List.getElem?_cons_succ, Option.some.injEq, exists_eq_left', List.set_cons_zero, List.set_cons_succ, c_gt, c_lt, c_le, c_ge, c_eq, c_ne, t_bl, t_int, n_add, n_sub, n_mul, n_mod, n_fdiv, n_pow, n_neg, ix_lst, ix_tup, decide_eq_true_eq, decide_eq_false_iff_not]
    rw [ws_cons]
    simp only [ws_ife, ws_set, ws_sub, ws_ret_, ws_expr, ws_pass, ws_retn, ws_brk, ws_cnt, x_cmp, x_cmp2, x_ix, x_int, x_bl, x_str, x_non, x_npart, x_bin, x_neg, x_not, x_and, x_or, x_ife, x_lst, x_tup, x_call, x_bi, x_thaw, x_glob, ws_nilE, ws_consE, y_var, List.getElem?_cons_zero, List.getElem?_cons_succ, Option.some.injEq, exists_eq_left', List.set_cons_zero, List.set_cons_succ, c_gt, c_lt, c_le, c_ge, c_eq, c_ne, t_bl, t_int, n_add, n_sub, n_mul, n_mod, n_fdiv, n_pow, n_neg, ix_lst, ix_tup, decide_eq_true_eq, decide_eq_false_iff_not]
    refine number D.pick D.number (.inl rfl) S4.dk (by omega) fun sh μ5 _ _ s1 d5 f5 => ?_
    have s1 := s1 rfl
    have S5 := S4.step hl f5 d5
    simp only [ws_ife, ws_set, ws_sub, ws_ret_, ws_expr, ws_pass, ws_retn, ws_brk, ws_cnt, x_cmp, x_cmp2, x_ix, x_int, x_bl, x_str, x_non, x_npart, x_bin, x_neg, x_not, x_and, x_or, x_ife, x_lst, x_tup, x_call, x_bi, x_thaw, x_glob, ws_nilE, ws_consE, y_var, List.getElem?_cons_zero, List.getElem?_cons_succ, Option.some.injEq, exists_eq_left', List.set_cons_zero, List.set_cons_succ, c_gt, c_lt, c_le, c_ge, c_eq, c_ne, t_bl, t_int, n_add, n_sub, n_mul, n_mod, n_fdiv, n_pow, n_neg, ix_lst, ix_tup, decide_eq_true_eq, decide_eq_false_iff_not]
    rw [ws_cons]
    simp only [ws_ife, ws_set, ws_sub, ws_ret_, ws_expr, ws_pass, ws_retn, ws_brk, ws_cnt, x_cmp, x_cmp2, x_ix, x_int, x_bl, x_str, x_non, x_npart, x_bin, x_neg, x_not, x_and, x_or, x_ife, x_lst, x_tup, x_call, x_bi, x_thaw, x_glob, ws_nilE, ws_consE, y_var, List.getElem?_cons_zero, List.getElem?_cons_succ, Option.some.injEq, exists_eq_left', List.set_cons_zero, List.set_cons_succ, c_gt, c_lt, c_le, c_ge, c_eq, c_ne, t_bl, t_int, n_add, n_sub, n_mul, n_mod, n_fdiv, n_pow, n_neg, ix_lst, ix_tup, decide_eq_true_eq, decide_eq_false_iff_not, ws_nil]
    refine ⟨fun _ => ?_, fun _ => ⟨_, _, _, _, rfl, S5.mono (by omega) (by omega)⟩⟩
    rw [ws_cons]
    obtain ⟨ds, e, e2, e3⟩ := S5.rws
    obtain ⟨d, hd, hm⟩ := at_mem (xs := ds) (i := i) (by omega) (by rw [e2]; exact i1)
    obtain ⟨dj, hdj, hmj⟩ := at_mem (xs := ds) (i := j) (by omega) (by rw [e2]; exact j1)
    obtain ⟨xs, h1, q, _⟩ := e3 d hm
    obtain ⟨ys, h1j, qj, _⟩ := e3 dj hmj
    obtain ⟨s, hs1, hs2, hs3⟩ := src_of h1
    obtain ⟨sj, hs1j, hs2j, hs3j⟩ := src_of h1j
    simp only [ws_ife, ws_set, ws_sub, ws_ret_, ws_expr, ws_pass, ws_retn, ws_brk, ws_cnt, x_cmp, x_cmp2, x_ix, x_int, x_bl, x_str, x_non, x_npart, x_bin, x_neg, x_not, x_and, x_or, x_ife, x_lst, x_tup, x_call, x_bi, x_thaw, x_glob, ws_nilE, ws_consE, y_var, List.getElem?_cons_zero, List.getElem?_cons_succ, Option.some.injEq, exists_eq_left', List.set_cons_zero, List.set_cons_succ, c_gt, c_lt, c_le, c_ge, c_eq, c_ne, t_bl, t_int, n_add, n_sub, n_mul, n_mod, n_fdiv, n_pow, n_neg, ix_lst, ix_tup, decide_eq_true_eq, decide_eq_false_iff_not, x_lc, i_zp, ix_cell e, hd, hdj, hs1, hs1j, ws_nil]
    have hb2 : sh.natAbs < 2 ^ 2 := by omega
    refine wp_lcInts2 (C := B + 4 * (t + 1)) q qj (by omega) hs2 hs3 hs2j hs3j (fun x y hx hy => ?_) fun ys hy => ?_
    · simp only [ws_ife, ws_set, ws_sub, ws_ret_, ws_expr, ws_pass, ws_retn, ws_brk, ws_cnt, x_cmp, x_cmp2, x_ix, x_int, x_bl, x_str, x_non, x_npart, x_bin, x_neg, x_not, x_and, x_or, x_ife, x_lst, x_tup, x_call, x_bi, x_thaw, x_glob, ws_nilE, ws_consE, y_var, List.getElem?_cons_zero, List.getElem?_cons_succ, Option.some.injEq, exists_eq_left', List.set_cons_zero, List.set_cons_succ, c_gt, c_lt, c_le, c_ge, c_eq, c_ne, t_bl, t_int, n_add, n_sub, n_mul, n_mod, n_fdiv, n_pow, n_neg, ix_lst, ix_tup, decide_eq_true_eq, decide_eq_false_iff_not, lc_two, wipe2, Bool.true_eq_false, false_implies, and_true, true_implies, true_and]
      refine ⟨lgm hb2 hy (by omega), _, rfl, powM (addB (powM hx (by omega : B + 4 * t ≤ B + 4 * t + 2)) (powM (mulB hb2 hy) (by omega))) (by omega)⟩
    · obtain ⟨μ', h2, h3⟩ := (S5.mono (Nat.le_refl _) (by omega : B + 4 * t ≤ B + 4 * (t + 1))).putS hl hb hy i0 i1
      simp only [ws_ife, ws_set, ws_sub, ws_ret_, ws_expr, ws_pass, ws_retn, ws_brk, ws_cnt, x_cmp, x_cmp2, x_ix, x_int, x_bl, x_str, x_non, x_npart, x_bin, x_neg, x_not, x_and, x_or, x_ife, x_lst, x_tup, x_call, x_bi, x_thaw, x_glob, ws_nilE, ws_consE, y_var, List.getElem?_cons_zero, List.getElem?_cons_succ, Option.some.injEq, exists_eq_left', List.set_cons_zero, List.set_cons_succ, c_gt, c_lt, c_le, c_ge, c_eq, c_ne, t_bl, t_int, n_add, n_sub, n_mul, n_mod, n_fdiv, n_pow, n_neg, ix_lst, ix_tup, decide_eq_true_eq, decide_eq_false_iff_not, h2]
      exact ⟨_, _, _, _, rfl, h3.mono (by omega) (Nat.le_refl _)⟩
  · obtain ⟨o5, o6, o8, o9, rfl, S2⟩ := hI
    exact hn _ _ _ _ _ (S2.mono (by omega) (by omega))
theorem rows_8 (D : Dr P) (hm1 : 1 ≤ many) (hm2 : many ≤ 12) (hl2 : long ≤ 20) (hl : l < μ0.length) (hb : b ≤ μ0.length + many) {B : Nat} (hB : B < 1000) {way size at_ : Int} {o5 o6 o8 o9 o10 o12 o13 : Option VM.D} (S : St2 μ0 μ l N many long B) (hN : N ≤ 900000) (a0 : 0 ≤ at_) (a1 : at_ < many)
    (hn : ∀ o9 o12 μ', St2 μ0 μ' l (N + 1) many long (B + 3) → Nn (ev3 l (μ0.length + many) many long way size o5 o6 o8 o9 o10 (some (.int at_)) o12 o13) μ') :
    Ws (runS (tb P (n + 2)) b s__law_rows_8 (ev3 l (μ0.length + many) many long way size o5 o6 o8 o9 o10 (some (.int at_)) o12 o13) μ) Nn Rt Bk Ct X := by
  unfold s__law_rows_8
  obtain ⟨ds, e, e2, e3⟩ := S.rws
  obtain ⟨d, hd, hm⟩ := at_mem (xs := ds) (i := at_ - 1) (by omega) (by omega)
  simp only [ev3, ws_ife, ws_set, ws_sub, ws_ret_, ws_expr, ws_pass, ws_retn, ws_brk, ws_cnt, x_cmp, x_cmp2, x_ix, x_int, x_bl, x_str, x_non, x_npart, x_bin, x_neg, x_not, x_and, x_or, x_ife, x_lst, x_tup, x_call, x_bi, x_thaw, x_glob, ws_nilE, ws_consE, y_var, List.getElem?_cons_zero, List.getElem?_cons_succ, Option.some.injEq, exists_eq_left', List.set_cons_zero, List.set_cons_succ, c_gt, c_lt, c_le, c_ge, c_eq, c_ne, t_bl, t_int, n_add, n_sub, n_mul, n_mod, n_fdiv, n_pow, n_neg, ix_lst, ix_tup, decide_eq_true_eq, decide_eq_false_iff_not, ws_nil]
  refine ⟨fun _ => ⟨fun _ => ?_, fun _ => hn _ _ _ (S.mono (by omega) (by omega))⟩, fun h => ⟨fun z => absurd z h, fun _ => hn _ _ _ (S.mono (by omega) (by omega))⟩⟩
  rw [ws_cons]
  simp only [ws_ife, ws_set, ws_sub, ws_ret_, ws_expr, ws_pass, ws_retn, ws_brk, ws_cnt, x_cmp, x_cmp2, x_ix, x_int, x_bl, x_str, x_non, x_npart, x_bin, x_neg, x_not, x_and, x_or, x_ife, x_lst, x_tup, x_call, x_bi, x_thaw, x_glob, ws_nilE, ws_consE, y_var, List.getElem?_cons_zero, List.getElem?_cons_succ, Option.some.injEq, exists_eq_left', List.set_cons_zero, List.set_cons_succ, c_gt, c_lt, c_le, c_ge, c_eq, c_ne, t_bl, t_int, n_add, n_sub, n_mul, n_mod, n_fdiv, n_pow, n_neg, ix_lst, ix_tup, decide_eq_true_eq, decide_eq_false_iff_not, ix_cell e, hd]
  rw [ws_cons]
  simp only [ws_ife, ws_set, ws_sub, ws_ret_, ws_expr, ws_pass, ws_retn, ws_brk, ws_cnt, x_cmp, x_cmp2, x_ix, x_int, x_bl, x_str, x_non, x_npart, x_bin, x_neg, x_not, x_and, x_or, x_ife, x_lst, x_tup, x_call, x_bi, x_thaw, x_glob, ws_nilE, ws_consE, y_var, List.getElem?_cons_zero, List.getElem?_cons_succ, Option.some.injEq, exists_eq_left', List.set_cons_zero, List.set_cons_succ, c_gt, c_lt, c_le, c_ge, c_eq, c_ne, t_bl, t_int, n_add, n_sub, n_mul, n_mod, n_fdiv, n_pow, n_neg, ix_lst, ix_tup, decide_eq_true_eq, decide_eq_false_iff_not]
  refine number D.pick D.number (.inl rfl) S.dk (by omega) fun sh μ1 _ _ s1 d1 f1 => ?_
  have s1 := s1 rfl
  have S1 := S.step hl f1 d1
  simp only [ws_ife, ws_set, ws_sub, ws_ret_, ws_expr, ws_pass, ws_retn, ws_brk, ws_cnt, x_cmp, x_cmp2, x_ix, x_int, x_bl, x_str, x_non, x_npart, x_bin, x_neg, x_not, x_and, x_or, x_ife, x_lst, x_tup, x_call, x_bi, x_thaw, x_glob, ws_nilE, ws_consE, y_var, List.getElem?_cons_zero, List.getElem?_cons_succ, Option.some.injEq, exists_eq_left', List.set_cons_zero, List.set_cons_succ, c_gt, c_lt, c_le, c_ge, c_eq, c_ne, t_bl, t_int, n_add, n_sub, n_mul, n_mod, n_fdiv, n_pow, n_neg, ix_lst, ix_tup, decide_eq_true_eq, decide_eq_false_iff_not]
  rw [ws_cons]
  obtain ⟨ds2, g, g2, g3⟩ := S1.rws
  have same : ds2 = ds := by
    have := f1.at_ (μ0.length + many) (by omega)
    rw [g, e] at this
    cases this; rfl
  subst same
  obtain ⟨xs, h1, q, _⟩ := g3 d hm
  obtain ⟨s, hs1, hs2, hs3⟩ := src_of h1
  have hs := srcIt_of h1 hs1
  simp only [ws_ife, ws_set, ws_sub, ws_ret_, ws_expr, ws_pass, ws_retn, ws_brk, ws_cnt, x_cmp, x_cmp2, x_ix, x_int, x_bl, x_str, x_non, x_npart, x_bin, x_neg, x_not, x_and, x_or, x_ife, x_lst, x_tup, x_call, x_bi, x_thaw, x_glob, ws_nilE, ws_consE, y_var, List.getElem?_cons_zero, List.getElem?_cons_succ, Option.some.injEq, exists_eq_left', List.set_cons_zero, List.set_cons_succ, c_gt, c_lt, c_le, c_ge, c_eq, c_ne, t_bl, t_int, n_add, n_sub, n_mul, n_mod, n_fdiv, n_pow, n_neg, ix_lst, ix_tup, decide_eq_true_eq, decide_eq_false_iff_not, x_lc, i_exD, hs, ws_nil]
  have hb2 : sh.natAbs < 2 ^ 2 := by omega
  refine wp_lcInts (C := B + 3) q (by omega) hs2 hs3 (fun x hx => ?_) fun ys hy => ?_
  · simp only [ws_ife, ws_set, ws_sub, ws_ret_, ws_expr, ws_pass, ws_retn, ws_brk, ws_cnt, x_cmp, x_cmp2, x_ix, x_int, x_bl, x_str, x_non, x_npart, x_bin, x_neg, x_not, x_and, x_or, x_ife, x_lst, x_tup, x_call, x_bi, x_thaw, x_glob, ws_nilE, ws_consE, y_var, List.getElem?_cons_zero, List.getElem?_cons_succ, Option.some.injEq, exists_eq_left', List.set_cons_zero, List.set_cons_succ, c_gt, c_lt, c_le, c_ge, c_eq, c_ne, t_bl, t_int, n_add, n_sub, n_mul, n_mod, n_fdiv, n_pow, n_neg, ix_lst, ix_tup, decide_eq_true_eq, decide_eq_false_iff_not, lc_name, wipe1, Bool.true_eq_false, false_implies, and_true, true_implies, true_and]
    refine ⟨lgm hb2 hx (by omega), _, rfl, powM (mulB hb2 hx) (by omega)⟩
  · obtain ⟨μ', h2, h3⟩ := (S1.mono (Nat.le_refl _) (by omega : B ≤ B + 3)).putS hl hb hy a0 a1
    simp only [ws_ife, ws_set, ws_sub, ws_ret_, ws_expr, ws_pass, ws_retn, ws_brk, ws_cnt, x_cmp, x_cmp2, x_ix, x_int, x_bl, x_str, x_non, x_npart, x_bin, x_neg, x_not, x_and, x_or, x_ife, x_lst, x_tup, x_call, x_bi, x_thaw, x_glob, ws_nilE, ws_consE, y_var, List.getElem?_cons_zero, List.getElem?_cons_succ, Option.some.injEq, exists_eq_left', List.set_cons_zero, List.set_cons_succ, c_gt, c_lt, c_le, c_ge, c_eq, c_ne, t_bl, t_int, n_add, n_sub, n_mul, n_mod, n_fdiv, n_pow, n_neg, ix_lst, ix_tup, decide_eq_true_eq, decide_eq_false_iff_not, h2]
    exact hn _ _ _ (h3.mono (by omega) (Nat.le_refl _))
end
section
variable {many long : Nat} {Nn Bk Ct : Ev → Sto → Prop} {X : Exc → Ev → Sto → Prop} {μ0 : Sto} {Q : VM.D × Nat → Sto → Prop}
theorem rows_t8 (D : Dr P) (hm1 : 1 ≤ many) (hm2 : many ≤ 12) (hl2 : long ≤ 20) (hl : l < μ0.length) (hb : b ≤ μ0.length + many) {B : Nat} (hB : B < 190) {way size at_ : Int} {o5 o6 o8 o9 o10 o12 o13 : Option VM.D} (S : St2 μ0 μ l N many long B) (hN : N ≤ 900000) (a0 : 0 ≤ at_) (a1 : at_ < many)
    (k : ∀ d f μ', RowsR 200 many long d → Dk μ' l (N + 1) → Fr μ0 μ' l → Q (d, f) μ') :
    Ws (runSs (tb P (n + 2)) b (.cons s__law_rows_8 (.cons s__law_rows_9 .nil)) (ev3 l (μ0.length + many) many long way size o5 o6 o8 o9 o10 (some (.int at_)) o12 o13) μ) Nn (fun d f μ' => ∃ x, frzTop μ0.length d f μ' = some x ∧ Q x (μ'.take μ0.length)) Bk Ct X := by
  rw [ws_cons]
  refine rows_8 D hm1 hm2 hl2 hl hb (by omega) S hN a0 a1 fun o9 o12 μ8 S8 => ?_
  unfold s__law_rows_9
  simp only [ev3, ws_cons, ws_nil, ws_ife, ws_set, ws_sub, ws_ret_, ws_expr, ws_pass, ws_retn, ws_brk, ws_cnt, x_cmp, x_cmp2, x_ix, x_int, x_bl, x_str, x_non, x_npart, x_bin, x_neg, x_not, x_and, x_or, x_ife, x_lst, x_tup, x_call, x_bi, x_thaw, x_glob, ws_nilE, ws_consE, y_var, List.getElem?_cons_zero, List.getElem?_cons_succ, Option.some.injEq, exists_eq_left', List.set_cons_zero, List.set_cons_succ, c_gt, c_lt, c_le, c_ge, c_eq, c_ne, t_bl, t_int, n_add, n_sub, n_mul, n_mod, n_fdiv, n_pow, n_neg, ix_lst, ix_tup, decide_eq_true_eq, decide_eq_false_iff_not]
  obtain ⟨d, f, h1, ⟨rs, e, e2, e3⟩, h3, h4⟩ := S8.out hl
  exact ⟨_, h1, k _ _ _ ⟨rs, e, e2, fun r hr => ⟨(e3 r hr).1, fun x hx => powM ((e3 r hr).2 x hx) (by omega)⟩⟩ h3 h4⟩
theorem rows_t6 (D : Dr P) (hm1 : 1 ≤ many) (hm2 : many ≤ 12) (hl2 : long ≤ 20) (hl : l < μ0.length) (hb : b ≤ μ0.length + many) {B : Nat} (hB : B < 90) {way size at_ : Int} {o5 o6 o8 o9 o10 o12 o13 : Option VM.D} (S : St2 μ0 μ l N many long B) (hN : N ≤ 800000) (a0 : 0 ≤ at_) (a1 : at_ < many)
    (k : ∀ d f μ', RowsR 200 many long d → Dk μ' l (N + 2 + 100 + 1) → Fr μ0 μ' l → Q (d, f) μ') :
    Ws (runSs (tb P (n + 2)) b (.cons s__law_rows_6 (.cons s__law_rows_7 (.cons s__law_rows_8 (.cons s__law_rows_9 .nil)))) (ev3 l (μ0.length + many) many long way size o5 o6 o8 o9 o10 (some (.int at_)) o12 o13) μ) Nn (fun d f μ' => ∃ x, frzTop μ0.length d f μ' = some x ∧ Q x (μ'.take μ0.length)) Bk Ct X := by
  rw [ws_cons]
  refine rows_6 D hm1 hm2 hl2 hl hb (by omega) S (by omega) a0 a1 fun o9 μ6 S6 => ?_
  rw [ws_cons]
  refine rows_7 D hm1 hm2 hl2 hl hb (by omega) S6 (by omega) fun o5 o6 o8 o9 μ7 S7 => ?_
  exact rows_t8 D hm1 hm2 hl2 hl hb (by omega) S7 (by omega) a0 a1 k
theorem rows_t3 (D : Dr P) (hm1 : 1 ≤ many) (hm2 : many ≤ 12) (hl1 : 1 ≤ long) (hl2 : long ≤ 20) (hl : l < μ0.length) (hb : b ≤ μ0.length + many) {way size : Int} (f12 : Fr μ0 μ l) (d2 : Dk μ l N) (hN : N ≤ 800000 - 200)
    (k : ∀ d f μ', RowsR 200 many long d → Dk μ' l (N + 40 + 1 + 2 + 100 + 1) → Fr μ0 μ' l → Q (d, f) μ') :
    Ws (runSs (tb P (n + 2)) b (.cons s__law_rows_3 (.cons s__law_rows_4 (.cons s__law_rows_5 (.cons s__law_rows_6 (.cons s__law_rows_7 (.cons s__law_rows_8 (.cons s__law_rows_9 .nil))))))) (ev2 l many long way size) μ) Nn (fun d f μ' => ∃ x, frzTop μ0.length d f μ' = some x ∧ Q x (μ'.take μ0.length)) Bk Ct X := by
  rw [ws_cons]
  refine rows_3 (by omega) hl2 f12 d2 fun μ3 S3 => ?_
  rw [ws_cons]
  refine rows_4 D (by omega) hl1 hl2 hl S3 (by omega) fun o5 o6 o8 o9 o10 μ4 S4 => ?_
  rw [ws_cons]
  refine rows_5 D hm1 hm2 hl (S4.two (B := 81) fun _ _ => Nat.le_refl _) (by omega) fun at_ μ5 a0 a1 S5 => ?_
  exact rows_t6 D hm1 hm2 hl2 hl hb (by omega) S5 (by omega) a0 a1 k
end
/-- DRAWN ROWS -/
theorem rows (D : Dr P) {Q : VM.D × Nat → Sto → Prop} {many long : Nat} (hm1 : 1 ≤ many) (hm2 : many ≤ 12) (hl1 : 1 ≤ long) (hl2 : long ≤ 20) (hd : Dk μ l N) (hN : N ≤ 700000)
    (k : ∀ d f μ', RowsR 200 many long d → Dk μ' l (N + 500) → Fr μ μ' l → Q (d, f) μ') : Wp ((tb P (n + 3)).call "_law_rows" b [.cell l, .int many, .int long] μ) Q E := by
  have hl := hd.lt
  refine (wp_call D.rows).mpr ((wp_run (by rfl)).mpr ?_)
  unfold b__law_rows s__law_rows_0 s__law_rows_1
  simp only [List.map_cons, List.map_nil, List.replicate, List.cons_append, List.nil_append]
  rw [ws_cons]
  simp only [ws_ife, ws_set, ws_sub, ws_ret_, ws_expr, ws_pass, ws_retn, ws_brk, ws_cnt, x_cmp, x_cmp2, x_ix, x_int, x_bl, x_str, x_non, x_npart, x_bin, x_neg, x_not, x_and, x_or, x_ife, x_lst, x_tup, x_call, x_bi, x_thaw, x_glob, ws_nilE, ws_consE, y_var, List.getElem?_cons_zero, List.getElem?_cons_succ, Option.some.injEq, exists_eq_left', List.set_cons_zero, List.set_cons_succ, c_gt, c_lt, c_le, c_ge, c_eq, c_ne, t_bl, t_int, n_add, n_sub, n_mul, n_mod, n_fdiv, n_pow, n_neg, ix_lst, ix_tup, decide_eq_true_eq, decide_eq_false_iff_not]
  refine pick D.pick hd (by omega) (by decide) (by decide) fun way μ1 w0 w1 d1 f1 => ?_
  simp only [ws_ife, ws_set, ws_sub, ws_ret_, ws_expr, ws_pass, ws_retn, ws_brk, ws_cnt, x_cmp, x_cmp2, x_ix, x_int, x_bl, x_str, x_non, x_npart, x_bin, x_neg, x_not, x_and, x_or, x_ife, x_lst, x_tup, x_call, x_bi, x_thaw, x_glob, ws_nilE, ws_consE, y_var, List.getElem?_cons_zero, List.getElem?_cons_succ, Option.some.injEq, exists_eq_left', List.set_cons_zero, List.set_cons_succ, c_gt, c_lt, c_le, c_ge, c_eq, c_ne, t_bl, t_int, n_add, n_sub, n_mul, n_mod, n_fdiv, n_pow, n_neg, ix_lst, ix_tup, decide_eq_true_eq, decide_eq_false_iff_not]
  rw [ws_cons]
  simp only [ws_ife, ws_set, ws_sub, ws_ret_, ws_expr, ws_pass, ws_retn, ws_brk, ws_cnt, x_cmp, x_cmp2, x_ix, x_int, x_bl, x_str, x_non, x_npart, x_bin, x_neg, x_not, x_and, x_or, x_ife, x_lst, x_tup, x_call, x_bi, x_thaw, x_glob, ws_nilE, ws_consE, y_var, List.getElem?_cons_zero, List.getElem?_cons_succ, Option.some.injEq, exists_eq_left', List.set_cons_zero, List.set_cons_succ, c_gt, c_lt, c_le, c_ge, c_eq, c_ne, t_bl, t_int, n_add, n_sub, n_mul, n_mod, n_fdiv, n_pow, n_neg, ix_lst, ix_tup, decide_eq_true_eq, decide_eq_false_iff_not, List.length_cons, List.length_nil]
  refine ⟨by decide, pick D.pick d1 (by omega) (by decide) (by decide) fun sz μ2 s0 s1 d2 f2 => ?_⟩
  have hsz : ∃ size : Int, atI [VM.D.int 0, VM.D.int 0, VM.D.int 1, VM.D.int 2] sz = some (.int size) ∧ (size = 0 ∨ size = 1 ∨ size = 2) := by
    have : sz = 0 ∨ sz = 1 ∨ sz = 2 ∨ sz = 3 := by omega
    rcases this with rfl | rfl | rfl | rfl
    · exact ⟨0, at0, .inl rfl⟩
    · exact ⟨0, at1, .inl rfl⟩
    · exact ⟨1, at2, .inr (.inl rfl)⟩
    · exact ⟨2, by rfl, .inr (.inr rfl)⟩
  obtain ⟨size, hsz, hsize⟩ := hsz
  simp only [ws_ife, ws_set, ws_sub, ws_ret_, ws_expr, ws_pass, ws_retn, ws_brk, ws_cnt, x_cmp, x_cmp2, x_ix, x_int, x_bl, x_str, x_non, x_npart, x_bin, x_neg, x_not, x_and, x_or, x_ife, x_lst, x_tup, x_call, x_bi, x_thaw, x_glob, ws_nilE, ws_consE, y_var, List.getElem?_cons_zero, List.getElem?_cons_succ, Option.some.injEq, exists_eq_left', List.set_cons_zero, List.set_cons_succ, c_gt, c_lt, c_le, c_ge, c_eq, c_ne, t_bl, t_int, n_add, n_sub, n_mul, n_mod, n_fdiv, n_pow, n_neg, ix_lst, ix_tup, decide_eq_true_eq, decide_eq_false_iff_not, hsz]
  have f12 := f1.trans f2
  rw [ws_cons]
  refine rows_2 D (by omega) hl2 hsize f12 d2 (by omega) ?_ fun d f μ' hr dk fr => ?_
  · exact rows_t3 D hm1 hm2 hl1 hl2 hl (by omega) f12 d2 (by omega) fun d f μ' h1 h2 h3 => k d f μ' h1 (h2.mono (by omega)) h3
  · obtain ⟨rs, rfl, e2, e3⟩ := hr
    rw [fr.take, f_rows]
    exact ⟨_, rfl, k _ _ _ ⟨rs, rfl, e2, fun r hr => ⟨(e3 r hr).1, fun x hx => powM ((e3 r hr).2 x hx) (by decide)⟩⟩ (dk.mono (by omega)) fr⟩
end VM

set_option autoImplicit false
set_option linter.unusedVariables false
/-! determinants of whole-number tables, by the first row -/
namespace Det
def sumN (n : Nat) (f : Nat → Int) : Int := match n with | 0 => 0 | n + 1 => sumN n f + f n
theorem sum_congr {n : Nat} {f g : Nat → Int} (h : ∀ i, i < n → f i = g i) : sumN n f = sumN n g := by
  induction n with
  | zero => rfl
  | succ n ih =>
    show sumN n f + f n = sumN n g + g n
    rw [ih fun i hi => h i (by omega), h n (by omega)]
theorem sum_zero {n : Nat} {f : Nat → Int} (h : ∀ i, i < n → f i = 0) : sumN n f = 0 := by
  induction n with
  | zero => rfl
  | succ n ih =>
    show sumN n f + f n = 0
    rw [ih fun i hi => h i (by omega), h n (by omega)]; rfl
theorem sum_add {n : Nat} {f g : Nat → Int} : sumN n (fun i => f i + g i) = sumN n f + sumN n g := by
  induction n with
  | zero => rfl
  | succ n ih =>
    show sumN n _ + (f n + g n) = (sumN n f + f n) + (sumN n g + g n)
    rw [ih]; omega
theorem sum_mul {n : Nat} {c : Int} {f : Nat → Int} : sumN n (fun i => c * f i) = c * sumN n f := by
  induction n with
  | zero => show (0 : Int) = c * 0; rw [Int.mul_zero]
  | succ n ih =>
    show sumN n _ + c * f n = c * (sumN n f + f n)
    rw [ih, Int.mul_add]
theorem sum_mulr {n : Nat} {c : Int} {f : Nat → Int} : sumN n (fun i => f i * c) = sumN n f * c := by
  rw [Int.mul_comm, ← sum_mul]; exact sum_congr fun i _ => Int.mul_comm _ _
theorem sum_swap {n m : Nat} {f : Nat → Nat → Int} : sumN n (fun i => sumN m fun j => f i j) = sumN m fun j => sumN n fun i => f i j := by
  induction n with
  | zero => exact (sum_zero fun _ _ => rfl).symm
  | succ n ih =>
    show sumN n _ + sumN m _ = sumN m fun j => sumN n (fun i => f i j) + f n j
    rw [ih, sum_add]
theorem sum_one {n : Nat} {f : Nat → Int} {k : Nat} (hk : k < n) (h : ∀ i, i < n → i ≠ k → f i = 0) : sumN n f = f k := by
  induction n with
  | zero => omega
  | succ n ih =>
    show sumN n f + f n = f k
    by_cases e : k = n
    · subst e; rw [sum_zero fun i hi => h i (by omega) (by omega)]; omega
    · rw [ih (by omega) fun i hi => h i (by omega), h n (by omega) (by omega)]; omega
theorem sum_two {n : Nat} {f : Nat → Int} {k l : Nat} (hk : k < n) (hl : l < n) (kl : k ≠ l) (h : ∀ i, i < n → i ≠ k → i ≠ l → f i = 0) : sumN n f = f k + f l := by
  have e : sumN n f = sumN n (fun i => (if i = k then f k else 0) + (if i = l then f l else 0)) := sum_congr fun i hi => by
    by_cases h1 : i = k
    · subst h1; rw [if_pos rfl, if_neg kl]; omega
    · by_cases h2 : i = l
      · subst h2; rw [if_neg h1, if_pos rfl]; omega
      · rw [if_neg h1, if_neg h2, h i hi h1 h2]; rfl
  rw [e, sum_add, sum_one hk (fun i _ hn => if_neg hn), sum_one hl (fun i _ hn => if_neg hn), if_pos rfl, if_pos rfl]
theorem sum_head {n : Nat} {f : Nat → Int} : sumN (n + 1) f = f 0 + sumN n fun i => f (i + 1) := by
  induction n with
  | zero => show 0 + f 0 = f 0 + 0; omega
  | succ n ih =>
    show sumN (n + 1) f + f (n + 1) = f 0 + (sumN n (fun i => f (i + 1)) + f (n + 1))
    rw [ih]; omega
abbrev Mx := Nat → Nat → Int
def sg (j : Nat) : Int := if j % 2 = 0 then 1 else -1
theorem sg0 : sg 0 = 1 := rfl
theorem sg1 {j : Nat} : sg (j + 1) = - sg j := by
  unfold sg
  by_cases h : j % 2 = 0
  · rw [if_pos h, if_neg (by omega)]
  · rw [if_neg h, if_pos (by omega)]; rfl
theorem sg_add {i j : Nat} : sg (i + j) = sg i * sg j := by
  induction j with
  | zero => rw [sg0, Int.mul_one]; rfl
  | succ j ih => rw [← Nat.add_assoc, sg1, ih, sg1, Int.mul_neg]
theorem sg_sq {i : Nat} : sg i * sg i = 1 := by
  unfold sg; split <;> rfl
theorem sg_or (i : Nat) : sg i = 1 ∨ sg i = -1 := by
  unfold sg; split
  · exact .inl rfl
  · exact .inr rfl
/-- places but j -/
def sk (j b : Nat) : Nat := if b < j then b else b + 1
theorem sk_lt {j b : Nat} (h : b < j) : sk j b = b := if_pos h
theorem sk_ge {j b : Nat} (h : j ≤ b) : sk j b = b + 1 := if_neg (by omega)
theorem sk_le {j b n : Nat} (h : b < n) : sk j b < n + 1 := by unfold sk; split <;> omega
theorem sk_ne {j b : Nat} : sk j b ≠ j := by unfold sk; split <;> omega
theorem sk0 {b : Nat} : sk 0 b = b + 1 := rfl
theorem sks {j b : Nat} : sk (j + 1) (b + 1) = sk j b + 1 := by unfold sk; split <;> split <;> omega
theorem sks0 {j : Nat} : sk (j + 1) 0 = 0 := rfl
theorem sk_of {j c : Nat} (h : c ≠ j) : ∃ b, sk j b = c ∧ (∀ n, c < n + 1 → j < n + 1 → b < n) := by
  by_cases h1 : c < j
  · exact ⟨c, sk_lt h1, fun n _ _ => by omega⟩
  · exact ⟨c - 1, by rw [sk_ge (by omega)]; omega, fun n _ _ => by omega⟩
theorem sk_sk {j k b : Nat} (h : j ≤ k) : sk j (sk k b) = sk (k + 1) (sk j b) := by
  unfold sk; repeat' split
  all_goals omega
/-- without row i and place j -/
def mnr (i j : Nat) (A : Mx) : Mx := fun a b => A (sk i a) (sk j b)
def det : Nat → Mx → Int
  | 0, _ => 1
  | n + 1, A => sumN (n + 1) fun j => sg j * (A 0 j * det n (mnr 0 j A))
theorem det_s {n : Nat} {A : Mx} : det (n + 1) A = sumN (n + 1) fun j => sg j * (A 0 j * det n (mnr 0 j A)) := rfl
theorem det_congr {n : Nat} : ∀ {A B : Mx}, (∀ i j, i < n → j < n → A i j = B i j) → det n A = det n B := by
  induction n with
  | zero => intro A B h; rfl
  | succ n ih =>
    intro A B h
    rw [det_s, det_s]
    refine sum_congr fun j hj => ?_
    rw [h 0 j (by omega) hj, ih (A := mnr 0 j A) (B := mnr 0 j B) fun a b ha hb => h _ _ (sk_le ha) (sk_le hb)]
/-- row i is u -/
def put (A : Mx) (i : Nat) (u : Nat → Int) : Mx := fun a b => if a = i then u b else A a b
theorem put_at {A : Mx} {i b : Nat} {u : Nat → Int} : put A i u i b = u b := if_pos rfl
theorem put_ne {A : Mx} {i a b : Nat} {u : Nat → Int} (h : a ≠ i) : put A i u a b = A a b := if_neg h
theorem put_put {A : Mx} {i : Nat} {u v : Nat → Int} : put (put A i u) i v = put A i v := by
  funext a b; unfold put; split <;> rfl
theorem put_comm {A : Mx} {i k : Nat} {u v : Nat → Int} (h : i ≠ k) : put (put A i u) k v = put (put A k v) i u := by
  funext a b; unfold put; split <;> split <;> first | rfl | omega
theorem put_self {A : Mx} {i : Nat} : put A i (A i) = A := by
  funext a b; unfold put; split
  · rename_i h; rw [h]
  · rfl
/-- what is linear in each row, and 0 with two rows alike that stand together -/
structure Form0 (n : Nat) (f : Mx → Int) : Prop where
  cg : ∀ A B : Mx, (∀ i j, i < n → j < n → A i j = B i j) → f A = f B
  lin : ∀ i, i < n → ∀ (A : Mx) (u v : Nat → Int) (c : Int), f (put A i fun b => u b + c * v b) = f (put A i u) + c * f (put A i v)
  alt : ∀ i, i + 1 < n → ∀ A : Mx, A i = A (i + 1) → f A = 0
structure Form (n : Nat) (f : Mx → Int) : Prop extends Form0 n f where
  all : ∀ i k, i < k → k < n → ∀ A : Mx, A i = A k → f A = 0
section
variable {n : Nat} {f : Mx → Int}
theorem Form0.add (F : Form0 n f) {i : Nat} (hi : i < n) {A : Mx} {u v : Nat → Int} : f (put A i fun b => u b + v b) = f (put A i u) + f (put A i v) := by
  have h := F.lin i hi A u v 1
  rw [Int.one_mul] at h
  rw [← h]; congr 1; funext a b; unfold put; split <;> simp
theorem Form0.nil (F : Form0 n f) {i : Nat} (hi : i < n) {A : Mx} : f (put A i fun _ => 0) = 0 := by
  have h := F.lin i hi A (fun _ => 0) (fun _ => 0) 1
  have e : put A i (fun b => (0 : Int) + 1 * 0) = put A i fun _ => 0 := by funext a b; unfold put; split <;> simp
  rw [e] at h; omega
theorem Form0.mul (F : Form0 n f) {i : Nat} (hi : i < n) {A : Mx} {c : Int} {v : Nat → Int} : f (put A i fun b => c * v b) = c * f (put A i v) := by
  have h := F.lin i hi A (fun _ => 0) v c
  rw [F.nil hi] at h
  have e : put A i (fun b => (0 : Int) + c * v b) = put A i fun b => c * v b := by funext a b; unfold put; split <;> simp
  rw [e] at h; omega
theorem Form0.sum (F : Form0 n f) {i : Nat} (hi : i < n) {A : Mx} {m : Nat} {c : Nat → Int} {v : Nat → Nat → Int} : f (put A i fun b => sumN m fun k => c k * v k b) = sumN m fun k => c k * f (put A i (v k)) := by
  induction m with
  | zero => exact F.nil hi
  | succ m ih =>
    show f (put A i fun b => sumN m (fun k => c k * v k b) + c m * v m b) = sumN m _ + c m * f (put A i (v m))
    rw [F.lin i hi, ih]
theorem Form0.swap1 (F : Form0 n f) {i : Nat} (hi : i + 1 < n) {A : Mx} {u v : Nat → Int} : f (put (put A i u) (i + 1) v) = - f (put (put A i v) (i + 1) u) := by
  have hh : ∀ w x : Nat → Int, put (put A i w) (i + 1) x = put (put A (i + 1) x) i w := fun w x => put_comm (by omega)
  have z : ∀ w : Nat → Int, f (put (put A i w) (i + 1) w) = 0 := fun w => F.alt i hi _ (by funext b; rw [put_ne (by omega), put_at, put_at])
  have h := z fun b => u b + v b
  rw [F.add hi, hh, hh _ v, F.add (by omega), F.add (by omega), ← hh, ← hh, ← hh, ← hh, z, z] at h
  omega
theorem Form0.form (F : Form0 n f) : Form n f := by
  refine ⟨F, ?_⟩
  have key : ∀ d i, i + d + 1 < n → ∀ A : Mx, A i = A (i + d + 1) → f A = 0 := by
    intro d
    induction d with
    | zero => intro i hi A h; exact F.alt i hi A h
    | succ d ih =>
      intro i hi A h
      have e : A = put (put A (i + d + 1) (A (i + d + 1))) (i + d + 1 + 1) (A (i + (d + 1) + 1)) := by rw [put_self]; exact (put_self (A := A) (i := i + d + 2)).symm
      rw [e, F.swap1 (by omega), ih i (by omega)]
      · rfl
      · funext b
        rw [put_ne (by omega), put_ne (by omega), put_ne (by omega), put_at, h]
  intro i k h1 h2 A h
  have := key (k - i - 1) i (by omega) A (by rw [h]; congr 1; omega)
  exact this
/-- two rows exchanged -/
def swp (i k : Nat) (A : Mx) : Mx := fun a => if a = i then A k else if a = k then A i else A a
theorem Form.swap (F : Form n f) {i k : Nat} (hi : i < n) (hk : k < n) (ne : i ≠ k) {A : Mx} {u v : Nat → Int} : f (put (put A i u) k v) = - f (put (put A i v) k u) := by
  have hh : ∀ w x : Nat → Int, put (put A i w) k x = put (put A k x) i w := fun w x => put_comm (by omega)
  have z : ∀ w : Nat → Int, f (put (put A i w) k w) = 0 := fun w => by
    have e : put (put A i w) k w i = put (put A i w) k w k := by funext b; rw [put_ne ne, put_at, put_at]
    by_cases h : i < k
    · exact F.all i k h hk _ e
    · exact F.all k i (by omega) hi _ e.symm
  have h := z fun b => u b + v b
  rw [F.add hk, hh, hh _ v, F.add hi, F.add hi, ← hh, ← hh, ← hh, ← hh, z, z] at h
  omega
theorem Form.swp (F : Form n f) {i k : Nat} (hi : i < n) (hk : k < n) (ne : i ≠ k) {A : Mx} : f (swp i k A) = - f A := by
  have e1 : Det.swp i k A = put (put A i (A k)) k (A i) := by
    funext a b; unfold Det.swp put
    by_cases h1 : a = i
    · subst h1; rw [if_pos rfl, if_neg ne, if_pos rfl]
    · rw [if_neg h1]; by_cases h2 : a = k
      · rw [if_pos h2, if_pos h2]
      · rw [if_neg h2, if_neg h2, if_neg h1]
  have e2 : put (put A i (A i)) k (A k) = A := by rw [put_self]; exact put_self
  rw [e1, F.swap hi hk ne, e2]
theorem Form.eq0 (F : Form n f) {i k : Nat} (hi : i < n) (hk : k < n) (ne : i ≠ k) {A : Mx} (h : ∀ b, b < n → A i b = A k b) : f A = 0 := by
  have e : f A = f (put A i (A k)) := F.cg _ _ fun a b ha hb => by
    unfold put; split
    · rename_i z; rw [z]; exact h b hb
    · rfl
  rw [e]
  have q : put A i (A k) i = put A i (A k) k := by funext b; rw [put_at, put_ne (Ne.symm ne)]
  by_cases z : i < k
  · exact F.all i k z hk _ q
  · exact F.all k i (by omega) hi _ q.symm
/-- some other row so often added changes nothing -/
theorem Form.addrow (F : Form n f) {i k : Nat} (hi : i < n) (hk : k < n) (ne : i ≠ k) {A : Mx} {c : Int} : f (put A i fun b => A i b + c * A k b) = f A := by
  rw [F.lin i hi, put_self, F.eq0 hi hk ne (A := put A i (A k)) fun b _ => by rw [put_at, put_ne (Ne.symm ne)]]
  omega
end
end Det

set_option autoImplicit false
set_option linter.unusedVariables false
namespace Det
theorem mnr_put {i j a : Nat} {A : Mx} {u : Nat → Int} : mnr i j (put A (sk i a) u) = put (mnr i j A) a fun b => u (sk j b) := by
  funext x b
  unfold mnr put
  by_cases h : x = a
  · subst h; rw [if_pos rfl, if_pos rfl]
  · rw [if_neg h, if_neg]
    unfold sk; split <;> split <;> omega
theorem mnr_put0 {i j : Nat} {A : Mx} {u : Nat → Int} : mnr i j (put A i u) = mnr i j A := by
  funext x b
  unfold mnr put
  rw [if_neg sk_ne]
/-- sums over pairs that cancel -/
theorem sum_pair {F : Nat → Nat → Int} (h : ∀ j k, j ≤ k → F (k + 1) j = - F j k) : ∀ m, sumN (m + 1) (fun j => sumN m fun k => F j k) = 0
  | 0 => rfl
  | m + 1 => by
    have ih := sum_pair h m
    show sumN (m + 1) (fun j => sumN m (F j) + F j m) + sumN (m + 1) (F (m + 1)) = 0
    rw [sum_add, ih, Int.zero_add, ← sum_add]
    refine sum_zero fun i hi => ?_
    rw [h i m (by omega)]; omega
theorem mnr_mnr {j k : Nat} (h : j ≤ k) (A : Mx) : mnr 0 k (mnr 0 j A) = mnr 0 j (mnr 0 (k + 1) A) := by
  funext a b
  show A (sk 0 (sk 0 a)) (sk j (sk k b)) = A (sk 0 (sk 0 a)) (sk (k + 1) (sk j b))
  rw [sk_sk h]
theorem det_form0 : ∀ n, Form0 n (det n)
  | 0 => ⟨fun _ _ _ => rfl, fun i hi => by omega, fun i hi => by omega⟩
  | n + 1 => by
    have ih := det_form0 n
    refine ⟨fun A B h => det_congr h, fun i hi A u v c => ?_, fun i hi A h => ?_⟩
    · rw [det_s, det_s, det_s, ← sum_mul, ← sum_add]
      refine sum_congr fun j hj => ?_
      cases i with
      | zero =>
        rw [mnr_put0, mnr_put0, mnr_put0, put_at, put_at, put_at]
        grind
      | succ i =>
        rw [show i + 1 = sk 0 i from rfl, mnr_put, mnr_put, mnr_put, ih.lin i (by omega), put_ne (by simp [sk]), put_ne (by simp [sk]), put_ne (by simp [sk])]
        grind
    · cases i with
      | zero =>
        cases n with
        | zero => omega
        | succ m =>
          rw [det_s]
          have e : ∀ j, j < m + 1 + 1 → sg j * (A 0 j * det (m + 1) (mnr 0 j A)) = sumN (m + 1) fun k => sg j * sg k * (A 0 j * A 0 (sk j k)) * det m (mnr 0 k (mnr 0 j A)) := fun j hj => by
            rw [det_s, ← sum_mul, ← sum_mul]
            refine sum_congr fun k hk => ?_
            show sg j * (A 0 j * (sg k * (A (sk 0 0) (sk j k) * _))) = _
            rw [show A (sk 0 0) = A 0 from h.symm]
            grind
          rw [sum_congr e]
          refine sum_pair (F := fun j k => sg j * sg k * (A 0 j * A 0 (sk j k)) * det m (mnr 0 k (mnr 0 j A))) (fun j k hjk => ?_) (m + 1)
          show sg (k + 1) * sg j * (A 0 (k + 1) * A 0 (sk (k + 1) j)) * det m (mnr 0 j (mnr 0 (k + 1) A)) = - (sg j * sg k * (A 0 j * A 0 (sk j k)) * det m (mnr 0 k (mnr 0 j A)))
          rw [sk_lt (show j < k + 1 by omega), sk_ge hjk, mnr_mnr hjk, sg1]
          grind
      | succ i =>
        rw [det_s]
        refine sum_zero fun j hj => ?_
        rw [ih.alt i (by omega) (mnr 0 j A) (by funext b; exact congrFun h _)]
        simp
theorem det_form (n : Nat) : Form n (det n) := (det_form0 n).form
def one : Mx := fun i j => if i = j then 1 else 0
theorem mnr_one {j : Nat} : mnr j j one = one := by
  funext a b
  unfold mnr one sk
  repeat' split
  all_goals first | rfl | omega
theorem det_one : ∀ n, det n one = 1
  | 0 => rfl
  | n + 1 => by
    rw [det_s, sum_one (k := 0) (by omega)]
    · rw [mnr_one, det_one n]; rfl
    · intro i hi hn
      unfold one; rw [if_neg (Ne.symm hn)]; simp
/-! ### forms are told by their worth at one -/
/-- row 0 with one number 1, and B for the others -/
def ins (j : Nat) (B : Mx) : Mx := fun a b => match a with | 0 => if b = j then 1 else 0 | a + 1 => if b = j then 0 else B a (if b < j then b else b - 1)
theorem mnr_ins {j : Nat} {B : Mx} : mnr 0 j (ins j B) = B := by
  funext a b
  unfold mnr ins sk
  show (if (if b < j then b else b + 1) = j then 0 else B a (if (if b < j then b else b + 1) < j then (if b < j then b else b + 1) else (if b < j then b else b + 1) - 1)) = B a b
  by_cases h : b < j
  · rw [if_pos h, if_neg (by omega), if_pos h]
  · rw [if_neg h, if_neg (by omega), if_neg (by omega)]; rfl
section
variable {n : Nat} {f : Mx → Int}
theorem ins_put {j a : Nat} {B : Mx} {u : Nat → Int} : ins j (put B a u) = put (ins j B) (a + 1) fun b => if b = j then 0 else u (if b < j then b else b - 1) := by
  funext x b
  cases x with
  | zero => rw [put_ne (by omega)]; rfl
  | succ x =>
    by_cases h : x = a
    · subst h; rw [put_at]; show (if b = j then 0 else put B x u x _) = _; rw [put_at]
    · rw [put_ne (by omega)]; show (if b = j then 0 else put B a u x _) = if b = j then 0 else B x _; rw [put_ne h]
theorem form_ins (F : Form (n + 1) f) {j : Nat} (hj : j < n + 1) : Form n fun B => f (ins j B) := by
  refine Form0.form ⟨fun A B h => F.cg _ _ fun a b ha hb => ?_, fun i hi A u v c => ?_, fun i hi A h => F.alt (i + 1) (by omega) _ (by funext b; show (if b = j then 0 else A i _) = if b = j then 0 else A (i + 1) _; rw [h])⟩
  · cases a with
    | zero => rfl
    | succ a =>
      show (if b = j then 0 else A a _) = if b = j then 0 else B a _
      split
      · rfl
      · rw [h a _ (by omega) (by split <;> omega)]
  · show f (ins j _) = f (ins j _) + c * f (ins j _)
    rw [ins_put, ins_put, ins_put, ← F.lin (i + 1) (by omega)]
    congr 1; funext x b; unfold put
    split
    · dsimp only; split <;> simp
    · rfl
/-- a place is cleared below row 0 -/
theorem form_clear (F : Form (n + 1) f) {j : Nat} (hj : j < n + 1) (A : Mx) : f (put A 0 fun b => if b = j then 1 else 0) = f (ins j (mnr 0 j A)) := by
  have step : ∀ m, m ≤ n → f (put A 0 fun b => if b = j then 1 else 0) = f fun a b => match a with | 0 => if b = j then 1 else 0 | a + 1 => if a < m ∧ b = j then 0 else A (a + 1) b := by
    intro m
    induction m with
    | zero =>
      intro _
      refine F.cg _ _ fun a b _ _ => ?_
      cases a with
      | zero => exact put_at
      | succ a => rw [put_ne (by omega)]; exact (if_neg (by omega)).symm
    | succ m ih =>
      intro hm
      rw [ih (by omega)]
      have := F.addrow (i := m + 1) (k := 0) (by omega) (by omega) (by omega) (A := fun a b => match a with | 0 => if b = j then 1 else 0 | a + 1 => if a < m ∧ b = j then 0 else A (a + 1) b) (c := - A (m + 1) j)
      rw [← this]
      refine F.cg _ _ fun a b _ _ => ?_
      cases a with
      | zero => rw [put_ne (by omega)]
      | succ a =>
        by_cases h : a = m
        · subst h
          rw [put_at]
          show (if a < a ∧ b = j then 0 else A (a + 1) b) + -A (a + 1) j * (if b = j then 1 else 0) = if a < a + 1 ∧ b = j then 0 else A (a + 1) b
          rw [if_neg (by omega)]
          by_cases hb : b = j
          · subst hb; rw [if_pos rfl, if_pos (by omega)]; omega
          · rw [if_neg hb, if_neg (by omega)]; omega
        · rw [put_ne (by omega)]
          show (if a < m ∧ b = j then 0 else A (a + 1) b) = if a < m + 1 ∧ b = j then 0 else A (a + 1) b
          by_cases hb : a < m ∧ b = j
          · rw [if_pos hb, if_pos (by omega)]
          · rw [if_neg hb, if_neg (by omega)]
  rw [step n (Nat.le_refl _)]
  refine F.cg _ _ fun a b ha hb => ?_
  cases a with
  | zero => rfl
  | succ a =>
    show (if a < n ∧ b = j then 0 else A (a + 1) b) = if b = j then 0 else A (sk 0 a) (sk j (if b < j then b else b - 1))
    by_cases h : b = j
    · rw [if_pos ⟨by omega, h⟩, if_pos h]
    · rw [if_neg (by omega), if_neg h]
      show A (a + 1) b = A (a + 1) _
      congr 1
      by_cases h2 : b < j
      · rw [if_pos h2, sk_lt h2]
      · rw [if_neg h2, sk_ge (by omega)]; omega
theorem form_ins1 (F : Form (n + 1) f) : ∀ j, j < n + 1 → f (ins j one) = sg j * f one
  | 0, _ => by
    rw [sg0, Int.one_mul]
    refine F.cg _ _ fun a b _ _ => ?_
    cases a with
    | zero => show (if b = 0 then 1 else 0) = if 0 = b then 1 else 0; simp only [eq_comm]
    | succ a =>
      show (if b = 0 then 0 else if a = (if b < 0 then b else b - 1) then 1 else 0) = if a + 1 = b then 1 else 0
      rw [if_neg (Nat.not_lt_zero b)]
      repeat' split
      all_goals first | rfl | omega
  | j + 1, hj => by
    rw [sg1, Int.neg_mul, ← form_ins1 F j (by omega), ← F.swp (i := 0) (k := j + 1) (by omega) (by omega) (by omega)]
    refine F.cg _ _ fun a b _ _ => ?_
    unfold swp
    by_cases h0 : a = 0
    · subst h0
      rw [if_pos rfl]
      show (if b = j + 1 then 1 else 0) = if b = j then 0 else if j = (if b < j then b else b - 1) then 1 else 0
      repeat' split
      all_goals first | rfl | omega
    · rw [if_neg h0]
      cases a with
      | zero => exact absurd rfl h0
      | succ a =>
        by_cases h1 : a = j
        · subst h1
          rw [if_pos rfl]
          show (if b = a + 1 then 0 else if a = (if b < a + 1 then b else b - 1) then 1 else 0) = if b = a then 1 else 0
          repeat' split
          all_goals first | rfl | omega
        · rw [if_neg (by omega)]
          show (if b = j + 1 then 0 else if a = (if b < j + 1 then b else b - 1) then 1 else 0) = if b = j then 0 else if a = (if b < j then b else b - 1) then 1 else 0
          repeat' split
          all_goals first | rfl | omega
end
theorem form_det : ∀ {n : Nat} {f : Mx → Int}, Form n f → ∀ A, f A = f one * det n A
  | 0, f, F, A => by
    rw [F.cg A one fun i j hi => by omega]
    show f one = f one * 1
    omega
  | n + 1, f, F, A => by
    have e : A = put A 0 (fun b => A 0 b) := (put_self (A := A) (i := 0)).symm
    have e2 : f A = f (put A 0 fun b => sumN (n + 1) fun j => A 0 j * if b = j then 1 else 0) := by
      refine F.cg _ _ fun a b ha hb => ?_
      by_cases h : a = 0
      · subst h
        rw [put_at, sum_one hb fun i _ hn => by rw [if_neg (Ne.symm hn), Int.mul_zero], if_pos rfl, Int.mul_one]
      · rw [put_ne h]
    rw [e2, F.sum (v := fun j b => if b = j then 1 else 0) (by omega), det_s, ← sum_mul]
    refine sum_congr fun j hj => ?_
    have ih := form_det (form_ins F hj) (mnr 0 j A)
    rw [form_clear F hj, ih, form_ins1 F j hj]
    grind
def mul (n : Nat) (A B : Mx) : Mx := fun i j => sumN n fun k => A i k * B k j
def tr (A : Mx) : Mx := fun i j => A j i
theorem det_mul {n : Nat} {A B : Mx} : det n (mul n A B) = det n A * det n B := by
  have F : Form n fun A => det n (mul n A B) := by
    refine Form0.form ⟨fun A C h => det_congr fun i j hi hj => sum_congr fun k hk => by rw [h i k hi hk], fun i hi A u v c => ?_, fun i hi A h => (det_form0 n).alt i hi _ (by funext b; exact sum_congr fun k _ => by rw [h])⟩
    have e : ∀ u : Nat → Int, mul n (put A i u) B = put (mul n A B) i fun j => sumN n fun k => u k * B k j := fun u => by
      funext a b
      by_cases h : a = i
      · subst h; rw [put_at]; exact sum_congr fun k _ => by rw [put_at]
      · rw [put_ne h]; exact sum_congr fun k _ => by rw [put_ne h]
    rw [e, e, e, ← (det_form0 n).lin i hi]
    congr 1; funext a b; unfold put; split
    · dsimp only; rw [← sum_mul, ← sum_add]; exact sum_congr fun k _ => by grind
    · rfl
  have h := form_det F A
  have o : det n (mul n one B) = det n B := det_congr fun i j hi hj => by
    show sumN n (fun k => one i k * B k j) = B i j
    rw [sum_one hi fun k _ hn => by unfold one; rw [if_neg (Ne.symm hn), Int.zero_mul]]
    unfold one; rw [if_pos rfl, Int.one_mul]
  have h : det n (mul n A B) = det n (mul n one B) * det n A := h
  rw [h, o, Int.mul_comm]
theorem det_tr_form : ∀ n, Form0 n fun A => det n (tr A)
  | 0 => ⟨fun _ _ _ => rfl, fun i hi => by omega, fun i hi => by omega⟩
  | n + 1 => by
    have ih := det_tr_form n
    have tm : ∀ (j : Nat) (A : Mx), mnr 0 j (tr A) = tr (mnr j 0 A) := fun _ _ => rfl
    refine ⟨fun A B h => det_congr fun i j hi hj => h j i hj hi, fun i hi A u v c => ?_, fun i hi A h => ?_⟩
    · show det (n + 1) _ = det (n + 1) _ + c * det (n + 1) _
      rw [det_s, det_s, det_s, ← sum_mul, ← sum_add]
      refine sum_congr fun j hj => ?_
      rw [tm, tm, tm]
      by_cases h : j = i
      · subst h
        rw [mnr_put0, mnr_put0, mnr_put0]
        show sg j * (put A j _ j 0 * _) = sg j * (put A j _ j 0 * _) + c * (sg j * (put A j _ j 0 * _))
        rw [put_at, put_at, put_at]; grind
      · obtain ⟨a, rfl, ha⟩ := sk_of (Ne.symm h)
        have ha := ha n hi hj
        rw [mnr_put, mnr_put, mnr_put]
        have := ih.lin a ha (mnr j 0 A) (fun b => u (sk 0 b)) (fun b => v (sk 0 b)) c
        rw [this]
        show sg j * (put A (sk j a) _ j 0 * _) = sg j * (put A (sk j a) _ j 0 * _) + c * (sg j * (put A (sk j a) _ j 0 * _))
        rw [put_ne h, put_ne h, put_ne h]; grind
    · show det (n + 1) _ = 0
      rw [det_s, sum_two (k := i) (l := i + 1) (by omega) hi (by omega)]
      · have e : mnr 0 (i + 1) (tr A) = mnr 0 i (tr A) := by
          funext a b
          show A (sk (i + 1) b) (sk 0 a) = A (sk i b) (sk 0 a)
          by_cases hb : b = i
          · subst hb; rw [sk_lt (j := b + 1) (by omega), sk_ge (j := b) (by omega), h]
          · unfold sk; repeat' split
            all_goals first | rfl | omega
        rw [e, sg1]
        show sg i * (A i 0 * _) + - sg i * (A (i + 1) 0 * _) = 0
        rw [h]; grind
      · intro j hj h1 h2
        rw [tm]
        have : det n (tr (mnr j 0 A)) = 0 := by
          by_cases hji : j < i
          · refine ih.alt (i - 1) (by omega) _ ?_
            funext b
            show A (sk j (i - 1)) (sk 0 b) = A (sk j (i - 1 + 1)) (sk 0 b)
            rw [sk_ge (j := j) (b := i - 1) (by omega), sk_ge (j := j) (b := i - 1 + 1) (by omega), show i - 1 + 1 = i by omega, h]
          · refine ih.alt i (by omega) _ ?_
            funext b
            show A (sk j i) (sk 0 b) = A (sk j (i + 1)) (sk 0 b)
            rw [sk_lt (j := j) (b := i) (by omega), sk_lt (j := j) (b := i + 1) (by omega), h]
        rw [this]; simp
theorem det_tr {n : Nat} {A : Mx} : det n (tr A) = det n A := by
  have h := form_det (det_tr_form n).form A
  have h : det n (tr A) = det n (tr one) * det n A := h
  have e : det n (tr one) = 1 := by
    rw [← det_one n]; exact det_congr fun i j _ _ => by unfold tr one; simp only [eq_comm]
  rw [h, e, Int.one_mul]
end Det

set_option autoImplicit false
set_option linter.unusedVariables false
namespace Det
/-- row i ahead of all -/
def cyc (i : Nat) (A : Mx) : Mx := fun a => match a with | 0 => A i | a + 1 => A (sk i a)
theorem det_cyc {n : Nat} : ∀ {i : Nat}, i < n → ∀ A : Mx, det n (cyc i A) = sg i * det n A
  | 0, _, A => by
    rw [sg0, Int.one_mul]
    exact det_congr fun a b _ _ => by cases a <;> rfl
  | i + 1, hi, A => by
    have e : cyc (i + 1) A = cyc i (swp i (i + 1) A) := by
      funext a b
      cases a with
      | zero => show A (i + 1) b = swp i (i + 1) A i b; unfold swp; rw [if_pos rfl]
      | succ a =>
        show A (sk (i + 1) a) b = swp i (i + 1) A (sk i a) b
        unfold swp sk
        repeat' split
        all_goals first | rfl | omega | (congr 1; omega)
    rw [e, det_cyc (by omega), (det_form n).swp (by omega) hi (by omega), sg1]
    grind
theorem lap {n i : Nat} (hi : i < n + 1) (A : Mx) : det (n + 1) A = sumN (n + 1) fun j => sg (i + j) * (A i j * det n (mnr i j A)) := by
  have h := det_cyc hi A
  have h2 : det (n + 1) A = sg i * det (n + 1) (cyc i A) := by rw [h, ← Int.mul_assoc, sg_sq, Int.one_mul]
  rw [h2, det_s, ← sum_mul]
  refine sum_congr fun j hj => ?_
  rw [sg_add]
  show sg i * (sg j * (A i j * det n (mnr i j A))) = _
  grind
theorem lapc {n j : Nat} (hj : j < n + 1) (A : Mx) : det (n + 1) A = sumN (n + 1) fun i => sg (i + j) * (A i j * det n (mnr i j A)) := by
  rw [← det_tr, lap hj]
  refine sum_congr fun i hi => ?_
  show sg (j + i) * (A i j * det n (tr (mnr i j A))) = _
  rw [det_tr, Nat.add_comm]
def adj (n : Nat) (A : Mx) : Mx := fun i j => sg (j + i) * det n (mnr j i A)
theorem mul_adj {n i k : Nat} (hi : i < n + 1) (hk : k < n + 1) (A : Mx) : sumN (n + 1) (fun j => A i j * adj n A j k) = if i = k then det (n + 1) A else 0 := by
  have e : sumN (n + 1) (fun j => A i j * adj n A j k) = det (n + 1) (put A k (A i)) := by
    rw [lap hk]
    refine sum_congr fun j hj => ?_
    rw [put_at, mnr_put0]
    show A i j * (sg (k + j) * _) = _
    grind
  rw [e]
  split
  · rename_i h; rw [h, put_self]
  · rename_i h
    exact (det_form (n + 1)).eq0 hi hk h fun b _ => by rw [put_at, put_ne h]
theorem adj_mul {n i k : Nat} (hi : i < n + 1) (hk : k < n + 1) (A : Mx) : sumN (n + 1) (fun j => adj n A i j * A j k) = if i = k then det (n + 1) A else 0 := by
  have h := mul_adj hk hi (tr A)
  rw [det_tr] at h
  rw [show (if i = k then det (n + 1) A else 0) = if k = i then det (n + 1) A else 0 by simp only [eq_comm], ← h]
  refine sum_congr fun j hj => ?_
  show sg (j + i) * det n (mnr j i A) * A j k = A j k * (sg (i + j) * det n (tr (mnr j i A)))
  rw [det_tr, Nat.add_comm i j, Int.mul_comm]
/-! ### how great -/
theorem sum_le {n M : Nat} {f : Nat → Int} (h : ∀ i, i < n → (f i).natAbs ≤ M) : (sumN n f).natAbs ≤ n * M := by
  induction n with
  | zero => show (0 : Int).natAbs ≤ _; simp
  | succ n ih =>
    show (sumN n f + f n).natAbs ≤ _
    have := ih fun i hi => h i (by omega)
    have := h n (by omega)
    have := Int.natAbs_add_le (sumN n f) (f n)
    rw [Nat.succ_mul]; omega
theorem sg_abs {j : Nat} : (sg j).natAbs = 1 := by unfold sg; split <;> rfl
theorem det_le {B : Nat} : ∀ {n : Nat} {A : Mx}, (∀ i j, i < n → j < n → (A i j).natAbs ≤ 2 ^ B) → (det n A).natAbs ≤ 2 ^ (n * (B + n))
  | 0, A, _ => by show (1 : Int).natAbs ≤ _; simp
  | n + 1, A, h => by
    rw [det_s]
    have ih : ∀ j, j < n + 1 → (det n (mnr 0 j A)).natAbs ≤ 2 ^ (n * (B + n)) := fun j hj => det_le fun a b ha hb => h _ _ (sk_le ha) (sk_le hb)
    have h1 : (sumN (n + 1) fun j => sg j * (A 0 j * det n (mnr 0 j A))).natAbs ≤ (n + 1) * (2 ^ B * 2 ^ (n * (B + n))) := sum_le fun j hj => by
      rw [Int.natAbs_mul, Int.natAbs_mul, sg_abs, Nat.one_mul]
      exact Nat.mul_le_mul (h 0 j (by omega) hj) (ih j hj)
    refine Nat.le_trans h1 ?_
    have h2 : n + 1 ≤ 2 ^ (n + 1) := Nat.le_of_lt Nat.lt_two_pow_self
    refine Nat.le_trans (Nat.mul_le_mul_right _ h2) ?_
    rw [← Nat.pow_add, ← Nat.pow_add]
    refine Nat.pow_le_pow_right (by decide) ?_
    have : (n + 1) * (B + (n + 1)) = n * (B + n) + n + B + n + 1 := by grind
    omega
/-! ### bordered worths -/
def col (k j b : Nat) : Nat := if b < k then b else j
def bor (k : Nat) (A : Mx) (i j : Nat) : Mx := fun a b => A (col k i a) (col k j b)
def D (A : Mx) (k i j : Nat) : Int := det (k + 1) (bor k A i j)
theorem D0 {A : Mx} {i j : Nat} : D A 0 i j = A i j := by
  show (0 : Int) + sg 0 * (A (col 0 i 0) (col 0 j 0) * 1) = _
  rw [sg0]; show (0 : Int) + 1 * (A i j * 1) = _
  omega
theorem D_congr {A B : Mx} {k i j : Nat} (h : ∀ a b, (a < k ∨ a = i) → (b < k ∨ b = j) → A a b = B a b) : D A k i j = D B k i j :=
  det_congr fun a b ha hb => h _ _ (by unfold col; split <;> omega) (by unfold col; split <;> omega)
theorem D_row0 {A : Mx} {k i j : Nat} (h : i < k) : D A k i j = 0 :=
  (det_form (k + 1)).eq0 (i := i) (k := k) (by omega) (by omega) (by omega) fun b _ => by unfold bor; rw [show col k i i = i from if_pos h, show col k i k = i from if_neg (by omega)]
theorem bor_tr {k : Nat} {A : Mx} {i j : Nat} : tr (bor k A i j) = bor k (tr A) j i := rfl
theorem D_tr {A : Mx} {k i j : Nat} : D (tr A) k j i = D A k i j := by
  unfold D; rw [← bor_tr, det_tr]
theorem D_col0 {A : Mx} {k i j : Nat} (h : j < k) : D A k i j = 0 := by rw [← D_tr]; exact D_row0 h
theorem D_lead {A : Mx} {k : Nat} : D A k k k = det (k + 1) A := det_congr fun a b ha hb => by
  unfold bor col
  congr 1 <;> split <;> omega
/-- by the last place -/
theorem D_col {A : Mx} {k i : Nat} : ∃ κ : Nat → Int, ∀ j, D A k i j = sumN k (fun a => κ a * A a j) + det k A * A i j := by
  refine ⟨fun a => sg (a + k) * det k (mnr a k (bor k A i 0)), fun j => ?_⟩
  unfold D
  rw [lapc (j := k) (by omega)]
  show sumN k _ + sg (k + k) * (A (col k i k) (col k j k) * det k (mnr k k (bor k A i j))) = _
  have e : ∀ a, det k (mnr a k (bor k A i j)) = det k (mnr a k (bor k A i 0)) := fun a => det_congr fun x b hx hb => by
    unfold mnr bor
    rw [sk_lt hb]; unfold col; rw [if_pos hb, if_pos hb]
  have e2 : det k (mnr k k (bor k A i j)) = det k A := det_congr fun x b hx hb => by
    unfold mnr bor
    rw [sk_lt hb, sk_lt hx]; unfold col; rw [if_pos hb, if_pos hx]
  rw [e2, sg_add, sg_sq]
  have e3 : A (col k i k) (col k j k) = A i j := by unfold col; rw [if_neg (by omega), if_neg (by omega)]
  rw [e3]
  congr 1
  · refine sum_congr fun a ha => ?_
    rw [e]
    have : bor k A i j a k = A a j := by unfold bor col; rw [if_pos ha, if_neg (by omega)]
    rw [this]; grind
  · grind
theorem bareiss {A : Mx} {k i j : Nat} : det k A * D A (k + 1) i j = D A k i j * D A k k k - D A k i k * D A k k j := by
  obtain ⟨κ, hκ⟩ := D_col (A := A) (k := k) (i := i)
  have F := det_form (k + 2)
  have e1 : bor (k + 1) A i j = put (bor (k + 1) A i j) (k + 1) (fun b => A i (col (k + 1) j b)) := by
    funext a b; unfold put; split
    · rename_i h; subst h; unfold bor; rw [show col (k + 1) i (k + 1) = i from if_neg (by omega)]
    · rfl
  have e2 : det k A * D A (k + 1) i j = det (k + 2) (put (bor (k + 1) A i j) (k + 1) fun b => D A k i (col (k + 1) j b) + (-1) * sumN k fun a => κ a * A a (col (k + 1) j b)) := by
    show det k A * det (k + 2) _ = _
    rw [e1, ← F.mul (by omega), put_put]
    congr 1; funext a b; unfold put; split
    · dsimp only; rw [hκ]; omega
    · rfl
  rw [e2, F.lin (k + 1) (by omega), F.sum (v := fun a b => A a (col (k + 1) j b)) (by omega)]
  have z : sumN k (fun a => κ a * det (k + 2) (put (bor (k + 1) A i j) (k + 1) fun b => A a (col (k + 1) j b))) = 0 := sum_zero fun a ha => by
    rw [F.eq0 (i := a) (k := k + 1) (by omega) (by omega) (by omega) fun b _ => by rw [put_at, put_ne (by omega)]; unfold bor; rw [show col (k + 1) i a = a from if_pos (by omega)], Int.mul_zero]
  rw [z, lap (n := k + 1) (i := k + 1) (by omega), sum_two (k := k) (l := k + 1) (by omega) (by omega) (by omega)]
  · rw [put_at, put_at, mnr_put0, mnr_put0]
    have c1 : col (k + 1) j k = k := if_pos (by omega)
    have c2 : col (k + 1) j (k + 1) = j := if_neg (by omega)
    have m1 : det (k + 1) (mnr (k + 1) k (bor (k + 1) A i j)) = D A k k j := det_congr fun a b ha hb => by
      unfold mnr bor
      rw [sk_lt ha]
      congr 1
      · unfold col; repeat' split
        all_goals omega
      · unfold col sk; repeat' split
        all_goals omega
    have m2 : det (k + 1) (mnr (k + 1) (k + 1) (bor (k + 1) A i j)) = D A k k k := det_congr fun a b ha hb => by
      unfold mnr bor
      rw [sk_lt ha, sk_lt hb]
      congr 1
      · unfold col; repeat' split
        all_goals omega
      · unfold col; repeat' split
        all_goals omega
    have s1 : sg (k + 1 + k) = -1 := by rw [sg_add, sg1, Int.neg_mul, sg_sq]
    have s2 : sg (k + 1 + (k + 1)) = 1 := by rw [sg_add, sg_sq]
    rw [c1, c2, m1, m2, s1, s2]
    omega
  · intro b hb h1 h2
    rw [put_at, D_col0 (by unfold col; rw [if_pos (by omega)]; omega)]; simp
/-- a place without a head -/
theorem stuck {A : Mx} {n k : Nat} (hk : k < n) (hp : det k A ≠ 0) (h : ∀ i, k ≤ i → i < n → D A k i k = 0) : det n A = 0 := by
  obtain ⟨κ, hκ⟩ := D_col (A := tr A) (k := k) (i := k)
  have F := det_form n
  have e : det k A * det n (tr A) = 0 := by
    have e1 : det k A * det n (tr A) = det n (put (tr A) k fun b => det k A * tr A k b) := by rw [F.mul hk, put_self]
    have e2 : det n (put (tr A) k fun b => det k A * tr A k b) = det n (put (tr A) k fun b => sumN k fun a => (- κ a) * tr A a b) := det_congr fun a b ha hb => by
      unfold put; split
      · have hz : D (tr A) k k b = 0 := by
          rw [D_tr]
          by_cases hbk : b < k
          · exact D_row0 hbk
          · exact h b (by omega) hb
        have h2 := hκ b
        rw [hz, det_tr] at h2
        have h3 : sumN k (fun a => (-κ a) * tr A a b) = - sumN k fun a => κ a * tr A a b := by
          rw [← Int.neg_one_mul, ← sum_mul]; exact sum_congr fun _ _ => by grind
        dsimp only; rw [h3]; omega
      · rfl
    rw [e1, e2, F.sum (v := fun a b => tr A a b) hk]
    refine sum_zero fun a ha => ?_
    rw [F.eq0 (i := a) (k := k) (by omega) hk (by omega) fun b _ => by rw [put_at, put_ne (by omega)], Int.mul_zero]
  rw [det_tr] at e
  rcases Int.mul_eq_zero.mp e with e | e
  · exact absurd e hp
  · exact e
theorem D_le {A : Mx} {B n k i j : Nat} (h : ∀ i j, i < n → j < n → (A i j).natAbs ≤ 2 ^ B) (hk : k < n) (hi : i < n) (hj : j < n) : (D A k i j).natAbs ≤ 2 ^ (n * (B + n)) := by
  refine Nat.le_trans (det_le fun a b ha hb => h _ _ (by unfold col; split <;> omega) (by unfold col; split <;> omega)) (Nat.pow_le_pow_right (by decide) ?_)
  exact Nat.mul_le_mul (by omega) (by omega)
theorem D_swp {A : Mx} {k h i j : Nat} (hh : k ≤ h) : D (swp k h A) k i j = D A k (if i = k then h else if i = h then k else i) j := by
  by_cases hi : i < k
  · rw [D_row0 hi, if_neg (by omega), if_neg (by omega), D_row0 hi]
  · refine det_congr fun a b ha hb => ?_
    unfold bor
    by_cases hak : a < k
    · rw [show col k i a = a from if_pos hak, show col k _ a = a from if_pos hak]; unfold swp; rw [if_neg (by omega), if_neg (by omega)]
    · rw [show col k i a = i from if_neg hak, show col k _ a = _ from if_neg hak]; unfold swp; repeat' split
      all_goals first | rfl | omega
theorem det_swp_lead {A : Mx} {k h i : Nat} (hh : k ≤ h) : det k (swp k h A) = det k A := det_congr fun a b ha hb => by
  unfold swp; rw [if_neg (by omega), if_neg (by omega)]
end Det

set_option autoImplicit false
set_option linter.unusedVariables false
/-! what undoes a table -/
namespace Det
def inv (n : Nat) (A : Mx) : Mx := fun i j => det (n + 1) A * adj n A i j
theorem one_at {i j : Nat} : one i j = if i = j then 1 else 0 := rfl
section
variable {p : Nat} {A : Mx}
theorem unit_sq {d : Int} (h : d.natAbs = 1) : d * d = 1 := by
  have : d = 1 ∨ d = -1 := by omega
  rcases this with rfl | rfl <;> rfl
theorem inv_mul (h : (det (p + 1) A).natAbs = 1) {i j : Nat} (hi : i < p + 1) (hj : j < p + 1) : mul (p + 1) (inv p A) A i j = one i j := by
  have e : mul (p + 1) (inv p A) A i j = det (p + 1) A * sumN (p + 1) fun k => adj p A i k * A k j := by
    rw [← sum_mul]; exact sum_congr fun k _ => by show det (p + 1) A * adj p A i k * A k j = _; rw [Int.mul_assoc]
  rw [e, adj_mul hi hj, one_at]
  split
  · exact unit_sq h
  · exact Int.mul_zero _
theorem mul_inv (h : (det (p + 1) A).natAbs = 1) {i j : Nat} (hi : i < p + 1) (hj : j < p + 1) : mul (p + 1) A (inv p A) i j = one i j := by
  have e : mul (p + 1) A (inv p A) i j = det (p + 1) A * sumN (p + 1) fun k => A i k * adj p A k j := by
    rw [← sum_mul]; exact sum_congr fun k _ => by show A i k * (det (p + 1) A * adj p A k j) = _; grind
  rw [e, mul_adj hi hj, one_at]
  split
  · exact unit_sq h
  · exact Int.mul_zero _
theorem inv_det (h : (det (p + 1) A).natAbs = 1) : (det (p + 1) (inv p A)).natAbs = 1 := by
  have e : det (p + 1) A * det (p + 1) (inv p A) = 1 := by
    rw [← det_mul, ← det_one (p + 1)]; exact det_congr fun i j hi hj => mul_inv h hi hj
  have : (det (p + 1) A * det (p + 1) (inv p A)).natAbs = 1 := by rw [e]; rfl
  rw [Int.natAbs_mul, h, Nat.one_mul] at this; exact this
theorem mul_assoc {n : Nat} {A B C : Mx} {i j : Nat} : mul n (mul n A B) C i j = mul n A (mul n B C) i j := by
  show sumN n (fun k => sumN n (fun l => A i l * B l k) * C k j) = sumN n fun l => A i l * sumN n fun k => B l k * C k j
  have e1 : ∀ k, k < n → sumN n (fun l => A i l * B l k) * C k j = sumN n fun l => A i l * B l k * C k j := fun k _ => sum_mulr.symm
  have e2 : ∀ l, l < n → (A i l * sumN n fun k => B l k * C k j) = sumN n fun k => A i l * B l k * C k j := fun l _ => by
    rw [← sum_mul]; exact sum_congr fun k _ => (Int.mul_assoc _ _ _).symm
  rw [sum_congr e1, sum_congr e2, sum_swap]
theorem mul_one {n : Nat} {A B : Mx} {i j : Nat} (hj : j < n) (h : ∀ k, k < n → B k j = one k j) : mul n A B i j = A i j := by
  show sumN n (fun k => A i k * B k j) = _
  rw [sum_one hj fun k hk hn => by rw [h k hk, one_at, if_neg hn, Int.mul_zero], h j hj, one_at, if_pos rfl, Int.mul_one]
theorem one_mul {n : Nat} {A B : Mx} {i j : Nat} (hi : i < n) (h : ∀ k, k < n → A i k = one i k) : mul n A B i j = B i j := by
  show sumN n (fun k => A i k * B k j) = _
  rw [sum_one hi fun k hk hn => by rw [h k hk, one_at, if_neg (Ne.symm hn), Int.zero_mul], h i hi, one_at, if_pos rfl, Int.one_mul]
theorem inv_inv (h : (det (p + 1) A).natAbs = 1) {i j : Nat} (hi : i < p + 1) (hj : j < p + 1) : inv p (inv p A) i j = A i j := by
  have h2 := inv_det h
  have e1 : mul (p + 1) A (mul (p + 1) (inv p A) (inv p (inv p A))) i j = A i j := mul_one hj fun k hk => mul_inv h2 hk hj
  have e2 : mul (p + 1) (mul (p + 1) A (inv p A)) (inv p (inv p A)) i j = inv p (inv p A) i j := one_mul hi fun k hk => mul_inv h hi hk
  rw [← e2, mul_assoc, e1]
theorem inv_le {B : Nat} (h : (det (p + 1) A).natAbs = 1) (hA : ∀ i j, i < p + 1 → j < p + 1 → (A i j).natAbs ≤ 2 ^ B) {i j : Nat} (hi : i < p + 1) (hj : j < p + 1) : (inv p A i j).natAbs ≤ 2 ^ (p * (B + p)) := by
  show (det (p + 1) A * (sg (j + i) * det p (mnr j i A))).natAbs ≤ _
  rw [Int.natAbs_mul, Int.natAbs_mul, h, sg_abs, Nat.one_mul, Nat.one_mul]
  exact det_le fun a b ha hb => hA _ _ (sk_le ha) (sk_le hb)
end
end Det

set_option Elab.async false
set_option maxRecDepth 10000
set_option autoImplicit false
set_option linter.unusedVariables false
set_option linter.unusedSimpArgs false
/-! lists and tables by their places -/
namespace VM
open PySem L2
def genL (n : Nat) (g : Nat → D) : List D := (List.range n).map g
section
variable {n m : Nat} {g h : Nat → D}
theorem genL_len : (genL n g).length = n := by unfold genL; simp
theorem genL_get {i : Nat} (hi : i < n) : (genL n g)[i]? = some (g i) := by
  unfold genL
  rw [List.getElem?_map, List.getElem?_range hi]; rfl
theorem genL_of {i : Nat} {x : D} (e : (genL n g)[i]? = some x) : i < n ∧ x = g i := by
  have hi := (List.getElem?_eq_some_iff.mp e).1
  rw [genL_len] at hi
  rw [genL_get hi] at e
  exact ⟨hi, (Option.some.inj e).symm⟩
theorem genL_mem {x : D} (e : x ∈ genL n g) : ∃ i, i < n ∧ x = g i := by
  unfold genL at e
  obtain ⟨i, hi, rfl⟩ := List.mem_map.mp e
  exact ⟨i, List.mem_range.mp hi, rfl⟩
theorem genL_ext {xs : List D} (hl : xs.length = n) (e : ∀ i, i < n → xs[i]? = some (g i)) : xs = genL n g := by
  refine List.ext_getElem? fun i => ?_
  by_cases hi : i < n
  · rw [e i hi, genL_get hi]
  · rw [List.getElem?_eq_none (by omega), List.getElem?_eq_none (by rw [genL_len]; omega)]
theorem genL_congr (e : ∀ i, i < n → g i = h i) : genL n g = genL n h := genL_ext genL_len fun i hi => by rw [genL_get hi, e i hi]
theorem genL0 : genL 0 g = [] := rfl
theorem genL_snoc : genL n g ++ [g n] = genL (n + 1) g := by
  unfold genL; rw [List.range_succ, List.map_append]; rfl
theorem genL_set {i : Nat} {v : D} : (genL n g).set i v = genL n fun j => if j = i then v else g j := by
  refine genL_ext (by rw [List.length_set, genL_len]) fun j hj => ?_
  by_cases e : j = i
  · subst e; rw [List.getElem?_set_self (by rw [genL_len]; exact hj), if_pos rfl]
  · rw [List.getElem?_set_ne (Ne.symm e), genL_get hj, if_neg e]
theorem genL_app : genL n g ++ genL m h = genL (n + m) fun j => if j < n then g j else h (j - n) := by
  refine genL_ext (by rw [List.length_append, genL_len, genL_len]) fun j hj => ?_
  by_cases e : j < n
  · rw [List.getElem?_append_left (by rw [genL_len]; exact e), genL_get e, if_pos e]
  · rw [List.getElem?_append_right (by rw [genL_len]; omega), genL_len, genL_get (by omega), if_neg e]
theorem genL_take {k : Nat} (hk : k ≤ n) : (genL n g).take k = genL k g := by
  refine genL_ext (by rw [List.length_take, genL_len]; omega) fun j hj => ?_
  rw [List.getElem?_take, if_pos hj, genL_get (by omega)]
theorem genL_drop {k : Nat} : (genL n g).drop k = genL (n - k) fun j => g (k + j) := by
  refine genL_ext (by rw [List.length_drop, genL_len]) fun j hj => ?_
  rw [List.getElem?_drop, genL_get (by omega)]
theorem genL_rev : (genL n g).reverse = genL n fun j => g (n - 1 - j) := by
  refine genL_ext (by rw [List.length_reverse, genL_len]) fun j hj => ?_
  rw [List.getElem?_reverse (by rw [genL_len]; exact hj), genL_len, genL_get (by omega)]
theorem genL_fm {f : D → Option D} {k : Nat → D} (e : ∀ i, i < n → f (g i) = some (k i)) : (genL n g).filterMap f = genL n k := by
  unfold genL
  rw [List.filterMap_map]
  have : ∀ l : List Nat, (∀ i ∈ l, i < n) → l.filterMap (f ∘ g) = l.map k := by
    intro l
    induction l with
    | nil => intro _; rfl
    | cons a l ih =>
      intro hl
      rw [List.filterMap_cons, show (f ∘ g) a = some (k a) from e a (hl a List.mem_cons_self), ih fun i hi => hl i (List.mem_cons_of_mem _ hi)]; rfl
  exact this _ fun i hi => List.mem_range.mp hi
theorem genL_atI {i : Int} (h0 : 0 ≤ i) (h1 : i < n) : L2.atI (genL n g) i = some (g i.toNat) := by
  rw [atN h0 (by rw [genL_len]; exact h1), genL_get (by omega)]
theorem genL_last (hn : 1 ≤ n) : L2.atI (genL n g) (-1) = some (g (n - 1)) := by
  unfold L2.atI ixN
  rw [if_neg (by decide), if_pos (by rw [genL_len]; omega)]
  show (genL n g)[_]? = _
  rw [genL_len, show ((-1 : Int) + (n : Int)).toNat = n - 1 by omega, genL_get (by omega)]
theorem range_gen {lo : Int} : rangeD lo n = genL n fun i => .int (lo + (i : Nat)) := rfl
end
/-- what is cut off -/
theorem cut_head {n : Nat} {g : Nat → D} {j : Int} (h0 : 0 ≤ j) (h1 : j ≤ n) : cutD (genL n g) none (some j) = genL j.toNat g := by
  unfold cutD
  rw [genL_len]
  have e1 : HT.sIx n 0 none = 0 := rfl
  have e2 : HT.sIx n n (some j) = j.toNat := by
    unfold HT.sIx
    simp only []
    repeat' split
    all_goals omega
  rw [e1, e2, List.drop_zero, genL_take (by omega)]; rfl
theorem cut_tail {n : Nat} {g : Nat → D} {j : Int} (h0 : 0 ≤ j) : cutD (genL n g) (some j) none = genL (n - j.toNat) fun i => g (j.toNat + i) := by
  unfold cutD
  rw [genL_len]
  have e1 : HT.sIx n n none = n := rfl
  have e2 : HT.sIx n 0 (some j) = min j.toNat n := by
    unfold HT.sIx
    simp only []
    repeat' split
    all_goals omega
  rw [e1, e2, genL_drop, genL_take (by omega)]
  by_cases h : j.toNat ≤ n
  · rw [Nat.min_eq_left h]
  · rw [Nat.min_eq_right (by omega), Nat.sub_self, show n - j.toNat = 0 by omega]; rfl
abbrev rowL (m : Nat) (f : Nat → Int) : List D := genL m fun j => .int (f j)
abbrev tabD (n m : Nat) (A : Det.Mx) : D := .lst (genL n fun i => .lst (rowL m (A i)))
/-- a list of rows -/
structure TA (μ : Sto) (d : D) (n m : Nat) (A : Det.Mx) : Prop where
  ex : ∃ ds, itemsL μ d = some ds ∧ ds.length = n ∧ ∀ i, i < n → ∃ e, ds[i]? = some e ∧ itemsL μ e = some (rowL m (A i))
theorem TA.of {μ : Sto} {n m : Nat} {A : Det.Mx} : TA μ (tabD n m A) n m A := ⟨_, rfl, genL_len, fun i hi => ⟨_, genL_get hi, rfl⟩⟩
theorem TA.congr {μ : Sto} {d : D} {n m : Nat} {A B : Det.Mx} (h : TA μ d n m A) (e : ∀ i j, i < n → j < m → A i j = B i j) : TA μ d n m B := by
  obtain ⟨ds, h1, h2, h3⟩ := h
  exact ⟨ds, h1, h2, fun i hi => by
    obtain ⟨x, h4, h5⟩ := h3 i hi
    exact ⟨x, h4, h5.trans (congrArg some (genL_congr fun j hj => by rw [e i j hi hj]))⟩⟩
def Ext (μ μ' : Sto) : Prop := ∀ (k : Nat) (c : C), μ[k]? = some c → μ'[k]? = some c
theorem Ext.refl (μ : Sto) : Ext μ μ := fun _ _ h => h
theorem Ext.trans {μ ν ξ : Sto} (a : Ext μ ν) (b : Ext ν ξ) : Ext μ ξ := fun k c h => b k c (a k c h)
theorem Ext.app {μ ν : Sto} : Ext μ (μ ++ ν) := fun k c h => by rw [List.getElem?_append_left (List.getElem?_eq_some_iff.mp h).1]; exact h
theorem Ext.items {μ μ' : Sto} (h : Ext μ μ') {d : D} {xs : List D} (k : itemsL μ d = some xs) : itemsL μ' d = some xs := by
  cases d with
  | lst ys => exact k
  | cell c =>
    have k : (match μ[c]? with | some (C.lst xs) => some xs | _ => none) = some xs := k
    split at k
    · rename_i ys hy
      cases k
      show (match μ'[c]? with | some (C.lst xs) => some xs | _ => none) = some xs
      rw [h _ _ hy]
    · cases k
  | _ => cases k
theorem TA.ext {μ μ' : Sto} {d : D} {n m : Nat} {A : Det.Mx} (t : TA μ d n m A) (h : Ext μ μ') : TA μ' d n m A := by
  obtain ⟨ds, h1, h2, h3⟩ := t
  exact ⟨ds, h.items h1, h2, fun i hi => let ⟨x, a, b⟩ := h3 i hi; ⟨x, a, h.items b⟩⟩
theorem itemsS_of {μ : Sto} {d : D} {xs : List D} (k : itemsL μ d = some xs) : itemsS μ d = some xs := by
  cases d <;> first | exact k | cases k
theorem itemsR_of {μ : Sto} {d : D} {xs : List D} (k : itemsL μ d = some xs) : itemsR μ d = some xs := by
  cases d <;> first | exact k | cases k
theorem ix_of {μ : Sto} {d : D} {xs : List D} {i : Int} (k : itemsL μ d = some xs) : ixD d (.int i) μ = L2.atI xs i := by
  show (match itemsS μ d with | some xs => L2.atI xs i | none => none) = _
  rw [itemsS_of k]
section
variable {μ : Sto} {d : D} {n m : Nat} {A : Det.Mx} {E : Exc → Sto → Prop} {Q : D × Nat → Sto → Prop}
theorem TA.len (h : TA μ d n m A) : ∃ ds, itemsL μ d = some ds ∧ ds.length = n := let ⟨ds, a, b, _⟩ := h; ⟨ds, a, b⟩
theorem TA.row (h : TA μ d n m A) {i : Int} (h0 : 0 ≤ i) (h1 : i < n) : ∃ e, ixD d (.int i) μ = some e ∧ itemsL μ e = some (rowL m (A i.toNat)) := by
  obtain ⟨ds, a, b, c⟩ := h
  obtain ⟨e, h2, h3⟩ := c i.toNat (by omega)
  exact ⟨e, by rw [ix_of a, atN h0 (by omega)]; exact h2, h3⟩
theorem bi_len {xs : List D} (h : itemsL μ d = some xs) : Wp (biD "len" [d] μ) Q E ↔ Q (.int xs.length, 0) μ := by
  have e : biD "len" [d] μ = .ok (.int xs.length, 0) μ := by
    show lenD [d] μ = _
    have k := itemsS_of h
    cases d with
    | str s => cases h
    | _ => show sh ((itemsS μ _).map fun xs => D.int xs.length) μ = _; rw [k]; rfl
  rw [e]; exact wp_ok
theorem TA.blen (h : TA μ d n m A) : Wp (biD "len" [d] μ) Q E ↔ Q (.int n, 0) μ := by
  obtain ⟨ds, a, rfl⟩ := h.len
  exact bi_len a
theorem bi_list {xs : List D} (h : itemsL μ d = some xs) : Wp (biD "list" [d] μ) Q E ↔ Q (.lst xs, 1) μ := by
  have e : biD "list" [d] μ = .ok (.lst xs, 1) μ := by
    show (match itemsS μ d with | some xs => R.ok (D.lst xs, 1) μ | none => .bad) = _
    rw [itemsS_of h]
  rw [e]; exact wp_ok
theorem x_slc {T : Tb} {b : Nat} {ρ : Ev} {x lo hi : VM.E} : Wp (evE T b (.slc x lo hi) ρ μ) Q E ↔ Wp (evE T b x ρ μ) (fun d μ1 => Wp (evE T b lo ρ μ1) (fun l μ2 => ∃ lv, partD l.1 = some lv ∧ Wp (evE T b hi ρ μ2) (fun h μ3 => ∃ hv, partD h.1 = some hv ∧ Wp (slD d.1 lv hv μ3) Q E) E) E) E := by
  show Wp ((evE T b x ρ μ).bind fun d μ1 => (evE T b lo ρ μ1).bind fun l μ2 => match partD l.1 with
    | none => .bad
    | some lv => (evE T b hi ρ μ2).bind fun h μ3 => match partD h.1 with
      | none => .bad
      | some hv => slD d.1 lv hv μ3) Q E ↔ _
  simp only [wp_bind]
  have h2 : ∀ (d : D × Nat) (lv : Option Int) (h : D × Nat) (μ3 : Sto), Wp (match partD h.1 with | none => .bad | some hv => slD d.1 lv hv μ3) Q E ↔ ∃ hv, partD h.1 = some hv ∧ Wp (slD d.1 lv hv μ3) Q E := by
    intro d lv h μ3
    cases partD h.1 with
    | none => exact ⟨fun h => (wp_bad.mp h).elim, fun ⟨_, h, _⟩ => by cases h⟩
    | some hv => exact ⟨fun h => ⟨hv, rfl, h⟩, fun ⟨_, h, q⟩ => by cases h; exact q⟩
  have h1 : ∀ (d l : D × Nat) (μ2 : Sto), Wp (match partD l.1 with
    | none => .bad
    | some lv => (evE T b hi ρ μ2).bind fun h μ3 => match partD h.1 with
      | none => .bad
      | some hv => slD d.1 lv hv μ3) Q E ↔ ∃ lv, partD l.1 = some lv ∧ Wp (evE T b hi ρ μ2) (fun h μ3 => ∃ hv, partD h.1 = some hv ∧ Wp (slD d.1 lv hv μ3) Q E) E := by
    intro d l μ2
    cases partD l.1 with
    | none => exact ⟨fun h => (wp_bad.mp h).elim, fun ⟨_, h, _⟩ => by cases h⟩
    | some lv =>
      simp only [wp_bind, h2]
      exact ⟨fun h => ⟨lv, rfl, h⟩, fun ⟨_, h, q⟩ => by cases h; exact q⟩
  simp only [h1]
theorem sl_of {lo hi : Option Int} {xs : List D} (h : itemsL μ d = some xs) : Wp (slD d lo hi μ) Q E ↔ Q (.lst (cutD xs lo hi), 1) μ := by
  have e : slD d lo hi μ = .ok (.lst (cutD xs lo hi), 1) μ := by
    show (match itemsR μ d with | some xs => R.ok (D.lst (cutD xs lo hi), 1) μ | none => .bad) = _
    rw [itemsR_of h]
  rw [e]; exact wp_ok
theorem p_int {i : Int} : partD (.int i) = some (some i) := rfl
theorem p_non : partD .non = some none := rfl
theorem add_lst {d2 : D} {xs ys : List D} (h : itemsL μ d = some xs) (h2 : itemsL μ d2 = some ys) (hz : xs.length + ys.length ≤ sizeLine) : Wp (binD .Add d d2 μ) Q E ↔ Q (.lst (xs ++ ys), 1) μ := by
  have e : binD .Add d d2 μ = .ok (.lst (xs ++ ys), 1) μ := by
    have k := itemsR_of h
    have k2 := itemsR_of h2
    have key : (match itemsR μ d with
      | none => R.bad
      | some xs => match itemsR μ d2 with
        | none => .bad
        | some ys => if xs.length + ys.length ≤ sizeLine then R.ok (D.lst (xs ++ ys), 1) μ else .bad) = .ok (.lst (xs ++ ys), 1) μ := by
      rw [k, k2]; exact if_pos hz
    cases d with
    | lst zs => exact key
    | cell c => exact key
    | _ => cases h
  rw [e]; exact wp_ok
/-- walked by places, nothing written -/
theorem wp_lcGen {F : D → Sto → R (Option D)} {src : Src} {g h : Nat → D} {Q : List D → Sto → Prop} (hsrc : ∀ i, src.at μ i = nxO (genL n g)[i]?) (hsz : src.size μ = (genL n g).length) (hlen : n ≤ sizeLine)
    (hs : ∀ i, i < n → Wp (F (g i) μ) (fun y μ2 => μ2 = μ ∧ y = some (h i)) E) (he : Q (genL n h) μ) : Wp (lcLoop F src (src.size μ + 1) 0 [] μ) Q E := by
  refine wp_lcLoop (xs := genL n g) (fun i acc μ' => μ' = μ ∧ acc = genL i h) (fun i acc μ' e => by rw [e.1]; exact hsrc i) hsz ⟨rfl, rfl⟩ (fun i x acc μ' hx hI => ?_) fun acc μ' hI => ?_
  · obtain ⟨rfl, rfl⟩ := hI
    obtain ⟨hi, rfl⟩ := genL_of hx
    refine wp_mono (hs i hi) (fun y μ2 ⟨e1, e2⟩ => ?_) fun _ _ h => h
    subst e1 e2
    exact ⟨by rw [genL_len]; omega, rfl, genL_snoc⟩
  · obtain ⟨rfl, rfl⟩ := hI
    rw [genL_len]; exact he
end
end VM

set_option Elab.async false
set_option maxRecDepth 10000
set_option autoImplicit false
set_option linter.unusedVariables false
set_option linter.unusedSimpArgs false
/-! tables: need_table, less_of, the law's own worth -/
namespace VM
open PySem L2
def s_need_table_0 : VM.S := (.ife (.cmp .NotEq (.bi "len" (.cons (.var 0) .nil)) (.bi "len" (.cons (.ix (.var 0) (.int 0)) .nil))) (.cons (.raise_ "NoMatch")
  .nil) .nil)
def b_need_table : Ss := (.cons s_need_table_0 .nil)
def f_need_table : Fn := ⟨1, 1, false, b_need_table⟩
def s_less_of_0 : VM.S := (.ret (.lc (.bin .Add (.slc (.var 3) .npart (.var 2)) (.slc (.var 3) (.bin .Add (.var 2) (.int 1)) .npart)) (.name 3) (.ex (.bin .Add (.slc (.var 0) .npart (.var 1)) (.slc (.var 0) (.bin .Add (.var 1) (.int 1)) .npart))) (.bl true) [3]))
def b_less_of : Ss := (.cons s_less_of_0 .nil)
def f_less_of : Fn := ⟨3, 4, false, b_less_of⟩
section
variable {P : Pg} {μ : Sto} {d : D} {n m k b : Nat} {A : Det.Mx} {E : Exc → Sto → Prop} {Q : D × Nat → Sto → Prop}
theorem take_app {μ ν : Sto} : (μ ++ ν).take μ.length = μ := by rw [List.take_append_of_le_length (Nat.le_refl _), List.take_length]
theorem size_small {n : Nat} (h : n ≤ 1000) : n ≤ sizeLine := Nat.le_trans h (by decide)
/-- tables are data -/
theorem tab_rows {n m : Nat} {A : Det.Mx} : rowsD ((List.range n).map fun a => (List.range m).map (A a)) = tabD n m A := by
  show D.lst _ = D.lst _
  unfold genL
  rw [List.map_map]
  congr 1
  refine List.map_congr_left fun a _ => ?_
  show D.lst (((List.range m).map _).map D.int) = D.lst (genL m _)
  unfold genL
  rw [List.map_map]; rfl
theorem f_tab {N f : Nat} {ν : Sto} {n m : Nat} {A : Det.Mx} : frzTop N (tabD n m A) f ν = some (tabD n m A, f) := by
  rw [← tab_rows]; exact f_rows
theorem need_table (hp : P.fns "need_table" = some f_need_table) (t : TA μ d n m A) (hn : 1 ≤ n) (q : n = m → Q (.non, 0) μ) (x : n ≠ m → E ⟨"NoMatch", none⟩ μ) : Wp ((tb P (k + 1)).call "need_table" b [d] μ) Q E := by
  refine (wp_call hp).mpr ((wp_run (by rfl)).mpr ?_)
  unfold b_need_table s_need_table_0
  obtain ⟨e, h1, h2⟩ := t.row (i := 0) (by decide) (by omega)
  simp only [List.map_cons, List.map_nil, List.replicate, List.cons_append, List.nil_append, ws_cons, ws_nil, ws_ife, ws_set, ws_sub, ws_ret_, ws_expr, ws_pass, ws_retn, ws_brk, ws_cnt, x_cmp, x_cmp2, x_ix, x_int, x_bl, x_str, x_non, x_npart, x_bin, x_neg, x_not, x_and, x_or, x_ife, x_lst, x_tup, x_call, x_bi, x_thaw, x_glob, ws_nilE, ws_consE, y_var, List.getElem?_cons_zero, List.getElem?_cons_succ, Option.some.injEq, exists_eq_left', List.set_cons_zero, List.set_cons_succ, c_gt, c_lt, c_le, c_ge, c_eq, c_ne, t_bl, t_int, n_add, n_sub, n_mul, n_mod, n_fdiv, n_pow, n_neg, ix_lst, ix_tup, decide_eq_true_eq, decide_eq_false_iff_not, h1, t.blen, bi_len h2, genL_len, ws_raise, List.take_length]
  exact ⟨fun h => x (by omega), fun h => q (by omega)⟩
theorem less_of (hp : P.fns "less_of" = some f_less_of) {i j : Nat} (t : TA μ d (n + 1) (m + 1) A) (hi : i < n + 1) (hj : j < m + 1) (hn : n < 400) (hm : m < 400) (q : Q (tabD n m (Det.mnr i j A), 1) μ) : Wp ((tb P (k + 1)).call "less_of" b [d, .int i, .int j] μ) Q E := by
  refine (wp_call hp).mpr ((wp_run (by rfl)).mpr ?_)
  unfold b_less_of s_less_of_0
  obtain ⟨ds, h1, h2, h3⟩ := t
  have e1 : ds = genL (n + 1) fun a => ds.getD a .non := genL_ext h2 fun a ha => by
    rw [List.getD_eq_getElem?_getD, List.getElem?_eq_getElem (by omega)]; rfl
  have hd : ∀ a, a < n + 1 → itemsL μ (ds.getD a .non) = some (rowL (m + 1) (A a)) := fun a ha => by
    obtain ⟨e, g1, g2⟩ := h3 a ha
    rw [List.getD_eq_getElem?_getD, g1]; exact g2
  have c1 : cutD ds none (some (i : Int)) = genL i fun a => ds.getD a .non := by rw [e1, cut_head (by omega) (by omega), ← e1]; rfl
  have c2 : cutD ds (some ((i : Int) + 1)) none = genL (n - i) fun a => ds.getD (i + 1 + a) .non := by
    rw [e1, cut_tail (by omega), ← e1, show ((i : Int) + 1).toNat = i + 1 by omega, show n + 1 - (i + 1) = n - i by omega]
  have e2 : (genL i fun a => ds.getD a .non) ++ (genL (n - i) fun a => ds.getD (i + 1 + a) .non) = genL n fun a => ds.getD (Det.sk i a) .non := by
    rw [genL_app, show i + (n - i) = n by omega]
    refine genL_congr fun a ha => ?_
    unfold Det.sk
    split
    · rfl
    · rw [show i + 1 + (a - i) = a + 1 by omega]
  simp only [List.map_cons, List.map_nil, List.replicate, List.cons_append, List.nil_append, ws_cons, ws_nil, ws_ife, ws_set, ws_sub, ws_ret_, ws_expr, ws_pass, ws_retn, ws_brk, ws_cnt, x_cmp, x_cmp2, x_ix, x_int, x_bl, x_str, x_non, x_npart, x_bin, x_neg, x_not, x_and, x_or, x_ife, x_lst, x_tup, x_call, x_bi, x_thaw, x_glob, ws_nilE, ws_consE, y_var, List.getElem?_cons_zero, List.getElem?_cons_succ, Option.some.injEq, exists_eq_left', List.set_cons_zero, List.set_cons_succ, c_gt, c_lt, c_le, c_ge, c_eq, c_ne, t_bl, t_int, n_add, n_sub, n_mul, n_mod, n_fdiv, n_pow, n_neg, ix_lst, ix_tup, decide_eq_true_eq, decide_eq_false_iff_not, x_lc, i_exD, x_slc, p_int, p_non, sl_of h1, c1, c2]
  rw [add_lst (xs := genL i fun a => ds.getD a .non) (ys := genL (n - i) fun a => ds.getD (i + 1 + a) .non) rfl rfl (by rw [genL_len, genL_len]; exact size_small (by omega)), e2]
  refine ⟨_, rfl, ?_⟩
  refine wp_lcGen (h := fun a => .lst (rowL m (Det.mnr i j A a))) (fun _ => rfl) rfl (size_small (by omega)) (fun a ha => ?_) ?_
  · have g1 := hd _ (Det.sk_le (j := i) ha)
    have c3 : cutD (rowL (m + 1) (A (Det.sk i a))) none (some (j : Int)) = rowL j (A (Det.sk i a)) := by rw [cut_head (by omega) (by omega)]; rfl
    have c4 : cutD (rowL (m + 1) (A (Det.sk i a))) (some ((j : Int) + 1)) none = rowL (m - j) fun x => A (Det.sk i a) (j + 1 + x) := by
      rw [cut_tail (by omega), show ((j : Int) + 1).toNat = j + 1 by omega, show m + 1 - (j + 1) = m - j by omega]
    simp only [ws_ife, ws_set, ws_sub, ws_ret_, ws_expr, ws_pass, ws_retn, ws_brk, ws_cnt, x_cmp, x_cmp2, x_ix, x_int, x_bl, x_str, x_non, x_npart, x_bin, x_neg, x_not, x_and, x_or, x_ife, x_lst, x_tup, x_call, x_bi, x_thaw, x_glob, ws_nilE, ws_consE, y_var, List.getElem?_cons_zero, List.getElem?_cons_succ, Option.some.injEq, exists_eq_left', List.set_cons_zero, List.set_cons_succ, c_gt, c_lt, c_le, c_ge, c_eq, c_ne, t_bl, t_int, n_add, n_sub, n_mul, n_mod, n_fdiv, n_pow, n_neg, ix_lst, ix_tup, decide_eq_true_eq, decide_eq_false_iff_not, lc_name, wipe1, Bool.true_eq_false, false_implies, and_true, true_implies, x_slc, p_int, p_non, sl_of g1, c3, c4]
    rw [add_lst (xs := rowL j (A (Det.sk i a))) (ys := rowL (m - j) fun x => A (Det.sk i a) (j + 1 + x)) rfl rfl (by rw [genL_len, genL_len]; exact size_small (by omega))]
    refine ⟨rfl, ?_⟩
    rw [genL_app, show j + (m - j) = m by omega]
    refine congrArg D.lst (genL_congr fun x hx => ?_)
    show _ = D.int (A (Det.sk i a) (Det.sk j x))
    unfold Det.sk
    repeat' split
    all_goals first | rfl | (dsimp only; rw [show j + 1 + (x - j) = x + 1 by omega])
  · exact ⟨_, f_tab, by rw [List.take_length]; exact q⟩
end
end VM

set_option Elab.async false
set_option maxRecDepth 10000
set_option autoImplicit false
set_option linter.unusedVariables false
set_option linter.unusedSimpArgs false
/-! what is compared -/
namespace VM
open PySem L2 PySem.W
class Dl (α : Type) [DecidableEq α] extends Datum α where
  lay : ∀ a : α, (toD a).canLay0 = true
  nos : ∀ (a : α) (s : Str), toD a ≠ .str s
instance : Dl Int where
  lay _ := rfl
  nos _ _ h := by cases h
instance : Dl Bool where
  lay _ := rfl
  nos _ _ h := by cases h
instance : Dl Unit where
  lay _ := rfl
  nos _ _ h := by cases h
section
variable {α β : Type} [DecidableEq α] [Dl α] [DecidableEq β] [Dl β]
theorem layAll : ∀ xs : List α, PyData.canLayAll0 (xs.map Datum.toD) = true
  | [] => by rw [List.map_nil]; unfold PyData.canLayAll0; rfl
  | x :: xs => by rw [List.map_cons, PyData.canLayAll0, Dl.lay x, layAll xs]; rfl
instance : Dl (List α) where
  lay xs := by show (PyData.list _).canLay0 = true; rw [PyData.canLay0]; exact layAll xs
  nos _ _ h := by cases h
instance : Dl (Tup α) where
  lay t := by show (PyData.tuple _).canLay0 = true; rw [PyData.canLay0]; exact layAll t.items
  nos _ _ h := by cases h
instance : Dl (α × β) where
  lay p := by show (PyData.tuple _).canLay0 = true; rw [PyData.canLay0, PyData.canLayAll0, PyData.canLayAll0, PyData.canLayAll0, Dl.lay, Dl.lay]; rfl
  nos _ _ h := by cases h
variable {μ : Sto} {d e : D} {a : α} {b : β}
theorem eq_dat {b : α} (hd : Datum.depth α ≤ 64) (ha : toPy μ 9 d = some (Datum.toD a)) (hb : toPy μ 9 e = some (Datum.toD b)) : cmpD .Eq d e μ = some (decide (a = b)) := by
  have s1 : ∀ x : α, SeqAt.shaped (Datum.toD x) = true := fun x => by
    unfold SeqAt.shaped
    rw [Dl.lay x, Bool.true_and]
    exact decide_eq_true (Nat.le_trans (Datum.depth_le x) hd)
  have key : eqS μ d e = some (decide (a = b)) := by
    unfold eqS
    rw [ha, hb]
    show (if SeqAt.shaped (Datum.toD a) && SeqAt.shaped (Datum.toD b) then some (PyData.eqv (Datum.toD a) (Datum.toD b)) else none) = _
    rw [s1, s1, Datum.eqv]; rfl
  show eqD μ d e = _
  cases d with
  | str s => exact absurd (Option.some.inj ha).symm (Dl.nos a s)
  | _ => exact key
theorem ne_dat {b : α} (hd : Datum.depth α ≤ 64) (ha : toPy μ 9 d = some (Datum.toD a)) (hb : toPy μ 9 e = some (Datum.toD b)) : cmpD .NotEq d e μ = some (!decide (a = b)) := by
  show (cmpD .Eq d e μ).map (fun k => !k) = _
  rw [eq_dat hd ha hb]; rfl
theorem da_list {n : Nat} {xs : List D} {r : List α} (h : itemsL μ d = some xs) (hl : xs.length = r.length) (hx : ∀ (i : Nat) (x : D) (y : α), xs[i]? = some x → r[i]? = some y → toPy μ n x = some (Datum.toD y)) : toPy μ (n + 1) d = some (Datum.toD r) := by
  have m : ∀ {xs : List D} {r : List α}, xs.length = r.length → (∀ (i : Nat) (x : D) (y : α), xs[i]? = some x → r[i]? = some y → toPy μ n x = some (Datum.toD y)) → xs.mapM (toPy μ n) = some (r.map Datum.toD) := by
    intro xs
    induction xs with
    | nil => intro r hl _; cases r with
      | nil => simp
      | cons => simp at hl
    | cons x xs ih =>
      intro r hl hx
      cases r with
      | nil => simp at hl
      | cons y r =>
        rw [List.mapM_cons, hx 0 x y rfl rfl, ih (by simpa using hl) fun i x y h1 h2 => hx (i + 1) x y h1 h2]; rfl
  have e := m hl hx
  cases d with
  | lst ys => cases h; show (xs.mapM (toPy μ n)).map PyData.list = _; rw [e]; rfl
  | cell c =>
    have h : (match μ[c]? with | some (C.lst xs) => some xs | _ => none) = some xs := h
    show (match μ[c]? with | some (C.lst xs) => (xs.mapM (toPy μ n)).map PyData.list | _ => none) = _
    split at h
    · rename_i ys hy
      cases h
      show (xs.mapM (toPy μ n)).map PyData.list = _; rw [e]; rfl
    · cases h
  | _ => cases h
end
abbrev rowN (m : Nat) (f : Nat → Int) : List Int := (List.range m).map f
abbrev tabN (n m : Nat) (A : Det.Mx) : List (List Int) := (List.range n).map fun i => rowN m (A i)
theorem ran_get {α : Type} {n i : Nat} {f : Nat → α} {y : α} (h : ((List.range n).map f)[i]? = some y) : i < n ∧ y = f i := by
  have hi := (List.getElem?_eq_some_iff.mp h).1
  rw [List.length_map, List.length_range] at hi
  rw [List.getElem?_map, List.getElem?_range hi] at h
  exact ⟨hi, (Option.some.inj h).symm⟩
theorem ran_eq {α : Type} {n m : Nat} {f g : Nat → α} : (List.range n).map f = (List.range m).map g ↔ n = m ∧ ∀ i, i < n → f i = g i := by
  constructor
  · intro h
    have hl := congrArg List.length h
    simp only [List.length_map, List.length_range] at hl
    subst hl
    refine ⟨rfl, fun i hi => ?_⟩
    have := congrArg (fun l => l[i]?) h
    simp only [List.getElem?_map, List.getElem?_range hi] at this
    exact Option.some.inj this
  · rintro ⟨rfl, h⟩
    exact List.map_congr_left fun i hi => h i (List.mem_range.mp hi)
theorem tab_eq {n m n' m' : Nat} {A B : Det.Mx} : tabN n m A = tabN n' m' B ↔ n = n' ∧ ∀ i, i < n → m = m' ∧ ∀ j, j < m → A i j = B i j := by
  rw [ran_eq]
  refine and_congr_right fun _ => forall_congr' fun i => forall_congr' fun _ => ran_eq
theorem da_int {μ : Sto} {n : Nat} {i : Int} : toPy μ (n + 1) (.int i) = some (Datum.toD i) := rfl
theorem da_row {μ : Sto} {d : D} {n m : Nat} {f : Nat → Int} (h : itemsL μ d = some (rowL m f)) : toPy μ (n + 2) d = some (Datum.toD (rowN m f)) :=
  da_list h (by rw [genL_len]; simp) fun i x y h1 h2 => by
    obtain ⟨_, rfl⟩ := genL_of h1
    obtain ⟨_, rfl⟩ := ran_get h2
    rfl
theorem da_tab {μ : Sto} {d : D} {n m k : Nat} {A : Det.Mx} (h : TA μ d n m A) : toPy μ (k + 3) d = some (Datum.toD (tabN n m A)) := by
  obtain ⟨ds, h1, h2, h3⟩ := h
  refine da_list h1 (by rw [h2]; simp) fun i x y g1 g2 => ?_
  obtain ⟨hi, rfl⟩ := ran_get g2
  obtain ⟨e, q1, q2⟩ := h3 i hi
  rw [q1] at g1; cases g1
  exact da_row q2
section
variable {μ : Sto} {d e : D} {n m n' m' : Nat} {A B : Det.Mx} {f g : Nat → Int}
theorem eq_tab (h : TA μ d n m A) (h2 : TA μ e n' m' B) : cmpD .Eq d e μ = some (decide (tabN n m A = tabN n' m' B)) := eq_dat (by decide) (da_tab h) (da_tab h2)
theorem ne_tab (h : TA μ d n m A) (h2 : TA μ e n' m' B) : cmpD .NotEq d e μ = some (!decide (tabN n m A = tabN n' m' B)) := ne_dat (by decide) (da_tab h) (da_tab h2)
theorem eq_row (h : itemsL μ d = some (rowL m f)) (h2 : itemsL μ e = some (rowL n g)) : cmpD .Eq d e μ = some (decide (rowN m f = rowN n g)) := eq_dat (by decide) (da_row h) (da_row h2)
theorem ne_row (h : itemsL μ d = some (rowL m f)) (h2 : itemsL μ e = some (rowL n g)) : cmpD .NotEq d e μ = some (!decide (rowN m f = rowN n g)) := ne_dat (by decide) (da_row h) (da_row h2)
theorem da_ints {r : List Int} (h : itemsL μ d = some (r.map .int)) : toPy μ (n + 2) d = some (Datum.toD r) :=
  da_list h (by simp) fun i x y h1 h2 => by
    rw [List.getElem?_map, h2] at h1; cases h1; rfl
theorem eq_ints {r s : List Int} (h : itemsL μ d = some (r.map .int)) (h2 : itemsL μ e = some (s.map .int)) : cmpD .Eq d e μ = some (decide (r = s)) := eq_dat (by decide) (da_ints h) (da_ints h2)
end
end VM

set_option Elab.async false
set_option maxRecDepth 10000
set_option autoImplicit false
set_option linter.unusedVariables false
set_option linter.unusedSimpArgs false
/-! a table of one's own: lists in cells -/
namespace VM
open PySem L2
/-- rows in the cells q 0, q 1, …; the list of them in c -/
structure Mt (μ0 μ : Sto) (n m c : Nat) (q : Nat → Nat) (R : Det.Mx) : Prop where
  le : μ0.length ≤ μ.length
  fr : ∀ k, k < μ0.length → μ[k]? = μ0[k]?
  inj : ∀ i j, i < n → j < n → q i = q j → i = j
  own : ∀ i, i < n → μ0.length ≤ q i ∧ q i ≠ c
  top0 : μ0.length ≤ c
  top : μ[c]? = some (.lst (genL n fun i => .cell (q i)))
  row : ∀ i, i < n → μ[q i]? = some (.lst (rowL m (R i)))
section
variable {μ0 μ : Sto} {n m c b : Nat} {q : Nat → Nat} {R : Det.Mx}
theorem Mt.take (h : Mt μ0 μ n m c q R) : μ.take μ0.length = μ0 := by
  refine List.ext_getElem? fun k => ?_
  rw [List.getElem?_take]
  split
  · rename_i hk; exact h.fr k hk
  · rename_i hk; rw [List.getElem?_eq_none (by omega)]
theorem Mt.congr {R' : Det.Mx} (h : Mt μ0 μ n m c q R) (e : ∀ i j, i < n → j < m → R i j = R' i j) : Mt μ0 μ n m c q R' :=
  ⟨h.le, h.fr, h.inj, h.own, h.top0, h.top, fun i hi => by rw [h.row i hi]; exact congrArg (fun l => some (C.lst l)) (genL_congr fun j hj => by rw [e i j hi hj])⟩
theorem Mt.ix (h : Mt μ0 μ n m c q R) {i : Int} (h0 : 0 ≤ i) (h1 : i < n) : ixD (.cell c) (.int i) μ = some (.cell (q i.toNat)) := by
  rw [ix_cell h.top, genL_atI h0 h1]
theorem Mt.ixR (h : Mt μ0 μ n m c q R) {i : Nat} {j : Int} (hi : i < n) (h0 : 0 ≤ j) (h1 : j < m) : ixD (.cell (q i)) (.int j) μ = some (.int (R i j.toNat)) := by
  rw [ix_cell (h.row i hi), genL_atI h0 h1]
theorem Mt.set (h : Mt μ0 μ n m c q R) {i : Nat} {j : Int} {v : Int} (hi : i < n) (h0 : 0 ≤ j) (h1 : j < m) :
    ∃ μ', setD b (.cell (q i)) (.int j) (.int v) μ = some μ' ∧ Mt μ0 μ' n m c q (fun a x => if a = i ∧ x = j.toNat then v else R a x) := by
  refine ⟨_, set_cell (h.row i hi) (ixN_ok h0 (by rw [genL_len]; exact h1)) put_int, ?_⟩
  have hl := (List.getElem?_eq_some_iff.mp (h.row i hi)).1
  have ho := h.own i hi
  refine ⟨by rw [List.length_set]; exact h.le, fun k hk => by rw [List.getElem?_set_ne (by omega)]; exact h.fr k hk, h.inj, h.own, h.top0, by rw [List.getElem?_set_ne (fun e => ho.2 e)]; exact h.top, fun a ha => ?_⟩
  by_cases e : a = i
  · subst e
    rw [List.getElem?_set_self hl, genL_set]
    refine congrArg (fun l => some (C.lst l)) (genL_congr fun x hx => ?_)
    by_cases e2 : x = j.toNat
    · dsimp only; rw [if_pos e2, if_pos ⟨rfl, e2⟩]
    · dsimp only; rw [if_neg e2, if_neg (fun z => e2 z.2)]
  · rw [List.getElem?_set_ne (fun z => e (h.inj a i ha hi z.symm)), h.row a ha]
    refine congrArg (fun l => some (C.lst l)) (genL_congr fun x hx => ?_)
    dsimp only; rw [if_neg (fun z => e z.1)]
def swI (i h a : Nat) : Nat := if a = i then h else if a = h then i else a
theorem swI_lt {i h a n : Nat} (hi : i < n) (hh : h < n) (ha : a < n) : swI i h a < n := by unfold swI; grind
theorem swI_inj {i h a b : Nat} (e : swI i h a = swI i h b) : a = b := by
  unfold swI at e; grind
theorem Mt.swap (h : Mt μ0 μ n m c q R) {i j : Int} (hi : 0 ≤ i) (hi2 : i < n) (hj : 0 ≤ j) (hj2 : j < n) (hb : b ≤ c) :
    ∃ μ1 μ2, setD b (.cell c) (.int i) (.cell (q j.toNat)) μ = some μ1 ∧ setD b (.cell c) (.int j) (.cell (q i.toNat)) μ1 = some μ2 ∧ Mt μ0 μ2 n m c (fun a => q (swI i.toNat j.toNat a)) (fun a => R (swI i.toNat j.toNat a)) := by
  have hl := (List.getElem?_eq_some_iff.mp h.top).1
  have hp : ∀ d, mayPut b c d = true := fun d => by unfold mayPut; simp [hb]
  have s1 := set_cell (b := b) (v := .cell (q j.toNat)) h.top (ixN_ok hi (by rw [genL_len]; exact hi2)) (hp _)
  have g1 : (μ.set c (.lst ((genL n fun i => D.cell (q i)).set i.toNat (.cell (q j.toNat)))))[c]? = some (.lst (genL n fun a => if a = i.toNat then D.cell (q j.toNat) else .cell (q a))) := by
    rw [List.getElem?_set_self hl, genL_set]
  have s2 := set_cell (b := b) (v := .cell (q i.toNat)) g1 (ixN_ok hj (by rw [genL_len]; exact hj2)) (hp _)
  refine ⟨_, _, s1, s2, ?_⟩
  rw [List.set_set, genL_set]
  have ne : ∀ k, k ≠ c → (μ.set c (.lst (genL n fun a => if a = j.toNat then D.cell (q i.toNat) else if a = i.toNat then D.cell (q j.toNat) else .cell (q a))))[k]? = μ[k]? := fun k hk => List.getElem?_set_ne (Ne.symm hk)
  have lt : ∀ a, a < n → swI i.toNat j.toNat a < n := fun a ha => swI_lt (by omega) (by omega) ha
  refine ⟨by rw [List.length_set]; exact h.le, fun k hk => by rw [ne k (by have := h.top0; omega)]; exact h.fr k hk, fun a a' ha ha' e => swI_inj (h.inj _ _ (lt a ha) (lt a' ha') e), fun a ha => h.own _ (lt a ha), h.top0, ?_, fun a ha => by rw [ne _ (h.own _ (lt a ha)).2]; exact h.row _ (lt a ha)⟩
  rw [List.getElem?_set_self hl]
  refine congrArg (fun l => some (C.lst l)) (genL_congr fun a ha => ?_)
  unfold swI
  by_cases e1 : a = i.toNat
  · by_cases e2 : a = j.toNat
    · rw [if_pos e2, if_pos e1, ← e1, ← e2]
    · rw [if_neg e2, if_pos e1, if_pos e1]
  · by_cases e2 : a = j.toNat
    · rw [if_pos e2, if_neg e1, if_pos e2]
    · rw [if_neg e2, if_neg e1, if_neg e1, if_neg e2]
/-- the rows of a table, each copied -/
theorem wp_copy {T : Tb} {d : D} {i : Nat} {src : Src} {E : Exc → Sto → Prop} {ρ : Ev} {Q : List D → Sto → Prop} {xs : List D} (h1 : itemsL μ d = some xs) (h2 : xs.length = n) (hz : n ≤ 900) (hr : ∀ a, a < n → ∃ e, xs[a]? = some e ∧ itemsL μ e = some (rowL m (R a))) (hs : srcIt μ d = some src) (hi : i < ρ.length)
    (hq : ∀ μ', μ'.length = μ.length + n → (∀ k, k < μ.length → μ'[k]? = μ[k]?) → (∀ a, a < n → μ'[μ.length + a]? = some (.lst (rowL m (R a)))) → Q (genL n fun a => .cell (μ.length + a)) μ') :
    Wp (lcLoop (lcF T b (.thaw (.bi "list" (.cons (.var i) .nil))) (.name i) (.bl true) [i] ρ) src (src.size μ + 1) 0 [] μ) Q E := by
  obtain ⟨s, hs1, hs2, hs3⟩ := src_of h1
  have e := srcIt_of h1 hs1
  rw [hs] at e; cases e
  have ext : ∀ μ', (∀ k, k < μ.length → μ'[k]? = μ[k]?) → Ext μ μ' := fun μ' h k c hk => by rw [h k (List.getElem?_eq_some_iff.mp hk).1]; exact hk
  refine wp_lcLoop (xs := xs) (fun k acc μ' => μ'.length = μ.length + k ∧ (∀ a, a < μ.length → μ'[a]? = μ[a]?) ∧ acc = genL k (fun a => .cell (μ.length + a)) ∧ ∀ a, a < k → μ'[μ.length + a]? = some (.lst (rowL m (R a)))) (fun k acc μ' hI => ?_) hs3 ⟨rfl, fun _ _ => rfl, rfl, fun a ha => by omega⟩ (fun k x acc μ' hx hI => ?_) fun acc μ' hI => ?_
  · obtain ⟨_, g, _, _⟩ := hI
    obtain ⟨s', hs1', hs2', _⟩ := src_of ((ext _ g).items h1)
    have : s' = src := by
      have q1 := srcIt_of h1 hs1
      cases d with
      | lst ys => cases hs1; cases hs1'; rfl
      | cell l =>
        obtain ⟨ys, hy⟩ : ∃ ys, μ[l]? = some (.lst ys) := by
          have h1 : (match μ[l]? with | some (C.lst xs) => some xs | _ => none) = some xs := h1
          split at h1
          · rename_i ys hy; exact ⟨ys, hy⟩
          · cases h1
        rw [srcL_cell hy] at hs1; rw [srcL_cell ((ext _ g) _ _ hy)] at hs1'
        cases hs1; cases hs1'; rfl
      | _ => cases h1
    rw [← this]; exact hs2' k
  · obtain ⟨g1, g2, rfl, g4⟩ := hI
    have hk := (List.getElem?_eq_some_iff.mp hx).1
    obtain ⟨y, hy, hy2⟩ := hr k (by omega)
    rw [hx] at hy; cases hy
    have hy3 := (ext _ g2).items hy2
    have hv : ((wipeD ρ [i]).set i (some x))[i]? = some (some x) := by
      rw [wipe1, List.set_set]; exact List.getElem?_set_self hi
    simp only [ws_ife, ws_set, ws_sub, ws_ret_, ws_expr, ws_pass, ws_retn, ws_brk, ws_cnt, x_cmp, x_cmp2, x_ix, x_int, x_bl, x_str, x_non, x_npart, x_bin, x_neg, x_not, x_and, x_or, x_ife, x_lst, x_tup, x_call, x_bi, x_thaw, x_glob, ws_nilE, ws_consE, y_var, List.getElem?_cons_zero, List.getElem?_cons_succ, Option.some.injEq, exists_eq_left', List.set_cons_zero, List.set_cons_succ, c_gt, c_lt, c_le, c_ge, c_eq, c_ne, t_bl, t_int, n_add, n_sub, n_mul, n_mod, n_fdiv, n_pow, n_neg, ix_lst, ix_tup, decide_eq_true_eq, decide_eq_false_iff_not, lc_name, Bool.true_eq_false, false_implies, and_true, true_implies, hv, bi_list hy3, Prod.mk.injEq, VM.D.lst.injEq]
    refine ⟨_, 0, ⟨rfl, rfl⟩, by rw [genL_len]; exact szr (by omega), by simp [g1]; omega, fun a ha => ?_, ?_, fun a ha => ?_⟩
    · rw [List.getElem?_append_left (by omega)]; exact g2 a ha
    · rw [g1]; exact genL_snoc (g := fun a => D.cell (μ.length + a))
    · by_cases e : a = k
      · rw [e, ← g1, List.getElem?_append_right (Nat.le_refl _), Nat.sub_self]; rfl
      · rw [List.getElem?_append_left (by omega)]; exact g4 a (by omega)
  · obtain ⟨g1, g2, g3, g4⟩ := hI
    rw [h2] at g1 g3 g4
    rw [g3]; exact hq μ' g1 g2 g4
theorem Mt.made {μ' : Sto} (h1 : μ'.length = μ.length + n) (h2 : ∀ k, k < μ.length → μ'[k]? = μ[k]?) (h3 : ∀ a, a < n → μ'[μ.length + a]? = some (.lst (rowL m (R a)))) :
    Mt μ (μ' ++ [.lst (genL n fun a => .cell (μ.length + a))]) n m μ'.length (fun a => μ.length + a) R := by
  refine ⟨by simp; omega, fun k hk => by rw [List.getElem?_append_left (by omega)]; exact h2 k hk, fun i j _ _ e => by omega, fun i hi => by omega, by omega, by rw [List.getElem?_append_right (Nat.le_refl _), Nat.sub_self]; rfl, fun a ha => by rw [List.getElem?_append_left (by omega)]; exact h3 a ha⟩
end
end VM

set_option Elab.async false
set_option maxRecDepth 10000
set_option autoImplicit false
set_option linter.unusedVariables false
set_option linter.unusedSimpArgs false
/-! worth_in -/
namespace VM
open PySem L2
def s_worth_in_0 : VM.S := (.set (.name 1) (.thaw (.lc (.thaw (.bi "list" (.cons (.var 8) .nil))) (.name 8) (.ex (.var 0)) (.bl true) [8])))
def s_worth_in_1 : VM.S := (.set (.name 2) (.int 1))
def s_worth_in_2 : VM.S := (.set (.name 3) (.int 1))
def s_worth_in_3 : VM.S := (.for_ (.name 4) (.rng1 (.bin .Sub (.bi "len" (.cons (.var 1) .nil)) (.int 1))) (.cons (.set (.name 6) (.lc (.var 5) (.name 5) (.rng2 (.var 4) (.bi "len" (.cons (.var 1) .nil))) (.cmp .NotEq (.ix (.ix (.var 1) (.var 5)) (.var 4)) (.int 0)) [5]))
  (.cons (.ife (.cmp .Eq (.var 6) (.lst .nil)) (.cons (.ret (.int 0))
  .nil) .nil)
  (.cons (.ife (.cmp .NotEq (.ix (.var 6) (.int 0)) (.var 4)) (.cons (.set (.tup (.cons (.sub (.var 1) (.var 4)) (.cons (.sub (.var 1) (.ix (.var 6) (.int 0))) .nil))) (.tup (.cons (.ix (.var 1) (.ix (.var 6) (.int 0))) (.cons (.ix (.var 1) (.var 4)) .nil))))
  (.cons (.set (.name 2) (.neg (.var 2)))
  .nil)) .nil)
  (.cons (.for_ (.name 5) (.rng2 (.bin .Add (.var 4) (.int 1)) (.bi "len" (.cons (.var 1) .nil))) (.cons (.for_ (.name 7) (.rng2 (.bin .Add (.var 4) (.int 1)) (.bi "len" (.cons (.var 1) .nil))) (.cons (.set (.sub (.ix (.var 1) (.var 5)) (.var 7)) (.bin .FloorDiv (.bin .Sub (.bin .Mult (.ix (.ix (.var 1) (.var 5)) (.var 7)) (.ix (.ix (.var 1) (.var 4)) (.var 4))) (.bin .Mult (.ix (.ix (.var 1) (.var 5)) (.var 4)) (.ix (.ix (.var 1) (.var 4)) (.var 7)))) (.var 3)))
  .nil))
  .nil))
  (.cons (.set (.name 3) (.ix (.ix (.var 1) (.var 4)) (.var 4)))
  .nil))))))
def s_worth_in_4 : VM.S := (.ret (.bin .Mult (.var 2) (.ix (.ix (.var 1) (.neg (.int 1))) (.neg (.int 1)))))
def b_worth_in : Ss := (.cons s_worth_in_0 (.cons s_worth_in_1 (.cons s_worth_in_2 (.cons s_worth_in_3 (.cons s_worth_in_4 .nil)))))
def f_worth_in : Fn := ⟨1, 9, false, b_worth_in⟩
abbrev evW (d : D) (c : Nat) (sign last : Int) (o4 o5 o6 o7 o8 : Option D) : Ev := [some d, some (.cell c), some (.int sign), some (.int last), o4, o5, o6, o7, o8]
theorem lge {i : Int} {p : Nat} (h : i.natAbs ≤ 2 ^ p) : i.natAbs.log2 ≤ p + 1 := lg (Nat.lt_of_le_of_lt h (Nat.pow_lt_pow_right (by decide) (by omega)))
theorem fdiv_ex {a b c : Int} (h : b ≠ 0) (e : b * c = a) : a.fdiv b = c := by
  rw [← e, Int.mul_comm]; exact Int.mul_fdiv_cancel _ h
section
variable {μ0 μ : Sto} {n c b k : Nat} {q : Nat → Nat} {R M : Det.Mx} {P : Pg} {d : D} {sign last : Int} {o4 o5 o6 o7 o8 : Option D} {Nn Bk Ct : Ev → Sto → Prop} {Rt : D → Nat → Sto → Prop} {X : Exc → Ev → Sto → Prop} {E : Exc → Sto → Prop} {N : Nat}
/-- so far worked -/
abbrev Wz (M : Det.Mx) (n k i0 j0 : Nat) (R : Det.Mx) : Prop := ∀ a x, k ≤ a → a < n → k ≤ x → x < n → R a x = if k < a ∧ k < x ∧ (a < i0 ∨ (a = i0 ∧ x < j0)) then Det.D M (k + 1) a x else Det.D M k a x
abbrev sInner : VM.S := (.set (.sub (.ix (.var 1) (.var 5)) (.var 7)) (.bin .FloorDiv (.bin .Sub (.bin .Mult (.ix (.ix (.var 1) (.var 5)) (.var 7)) (.ix (.ix (.var 1) (.var 4)) (.var 4))) (.bin .Mult (.ix (.ix (.var 1) (.var 5)) (.var 4)) (.ix (.ix (.var 1) (.var 4)) (.var 7)))) (.var 3)))
theorem inner {W : Nat} (hT : Mt μ0 μ n n c q R) (hk : k + 1 ≤ n) (hl : last ≠ 0) (he : last = Det.det k M) (hn : n ≤ 1000) (hD : ∀ i j, i < n → j < n → (Det.D M k i j).natAbs ≤ 2 ^ W) (hW : W < 60000000) {i : Nat} (hi : k < i) (hi2 : i < n) {j : Nat} (hj : k < j) (hj2 : j < n) (hR : Wz M n k i j R)
    (h : ∀ μ' R', Mt μ0 μ' n n c q R' → Wz M n k i (j + 1) R' → Nn (evW d c sign last (some (.int (k : Nat))) (some (.int (i : Nat))) o6 (some (.int (j : Nat))) o8) μ') :
    Ws (runS (tb P N) b sInner (evW d c sign last (some (.int (k : Nat))) (some (.int (i : Nat))) o6 (some (.int (j : Nat))) o8) μ) Nn Rt Bk Ct X := by
  have r1 : R i j = Det.D M k i j := by rw [hR i j (by omega) hi2 (by omega) hj2, if_neg (by omega)]
  have r2 : R k k = Det.D M k k k := by rw [hR k k (by omega) (by omega) (by omega) (by omega), if_neg (by omega)]
  have r3 : R i k = Det.D M k i k := by rw [hR i k (by omega) hi2 (by omega) (by omega), if_neg (by omega)]
  have r4 : R k j = Det.D M k k j := by rw [hR k j (by omega) (by omega) (by omega) hj2, if_neg (by omega)]
  have i1 := hT.ix (i := (i : Int)) (by omega) (by omega)
  have i2 := hT.ix (i := (k : Int)) (by omega) (by omega)
  have x1 := hT.ixR (i := i) (j := (j : Int)) hi2 (by omega) (by omega)
  have x2 := hT.ixR (i := k) (j := (k : Int)) (by omega) (by omega) (by omega)
  have x3 := hT.ixR (i := i) (j := (k : Int)) hi2 (by omega) (by omega)
  have x4 := hT.ixR (i := k) (j := (j : Int)) (by omega) (by omega) (by omega)
  simp only [Int.toNat_natCast, r1, r2, r3, r4] at i1 i2 x1 x2 x3 x4
  have l1 := lge (hD i j hi2 hj2)
  have l2 := lge (hD k k (by omega) (by omega))
  have l3 := lge (hD i k hi2 (by omega))
  have l4 := lge (hD k j (by omega) hj2)
  have hv : (Det.D M k i j * Det.D M k k k - Det.D M k i k * Det.D M k k j).fdiv last = Det.D M (k + 1) i j := fdiv_ex hl (by rw [he, Det.bareiss])
  obtain ⟨μ', hs, hT'⟩ := hT.set (b := b) (i := i) (j := (j : Int)) (v := Det.D M (k + 1) i j) hi2 (by omega) (by omega)
  simp only [evW, ws_ife, ws_set, ws_sub, ws_ret_, ws_expr, ws_pass, ws_retn, ws_brk, ws_cnt, x_cmp, x_cmp2, x_ix, x_int, x_bl, x_str, x_non, x_npart, x_bin, x_neg, x_not, x_and, x_or, x_ife, x_lst, x_tup, x_call, x_bi, x_thaw, x_glob, ws_nilE, ws_consE, y_var, List.getElem?_cons_zero, List.getElem?_cons_succ, Option.some.injEq, exists_eq_left', List.set_cons_zero, List.set_cons_succ, c_gt, c_lt, c_le, c_ge, c_eq, c_ne, t_bl, t_int, n_add, n_sub, n_mul, n_mod, n_fdiv, n_pow, n_neg, ix_lst, ix_tup, decide_eq_true_eq, decide_eq_false_iff_not, i1, i2, x1, x2, x3, x4, hv, hs]
  refine ⟨by omega, by omega, hl, ?_⟩
  refine h μ' _ hT' fun a x ha ha2 hx hx2 => ?_
  rw [Int.toNat_natCast]
  by_cases e : a = i ∧ x = j
  · rw [if_pos e, if_pos (by omega), e.1, e.2]
  · rw [if_neg e, hR a x ha ha2 hx hx2]
    by_cases e2 : k < a ∧ k < x ∧ (a < i ∨ (a = i ∧ x < j))
    · rw [if_pos e2, if_pos (by omega)]
    · rw [if_neg e2, if_neg (by omega)]
abbrev sRows : VM.S := (.for_ (.name 5) (.rng2 (.bin .Add (.var 4) (.int 1)) (.bi "len" (.cons (.var 1) .nil))) (.cons (.for_ (.name 7) (.rng2 (.bin .Add (.var 4) (.int 1)) (.bi "len" (.cons (.var 1) .nil))) (.cons sInner .nil)) .nil))
theorem Mt.len (h : Mt μ0 μ n n c q R) {Q : D × Nat → Sto → Prop} : Wp (biD "len" [.cell c] μ) Q E ↔ Q (.int n, 0) μ := by
  have : itemsL μ (.cell c) = some (genL n fun i => D.cell (q i)) := by
    show (match μ[c]? with | some (C.lst xs) => some xs | _ => none) = _
    rw [h.top]
  rw [bi_len this, genL_len]
theorem elim {W : Nat} (hT : Mt μ0 μ n n c q R) (hk : k + 1 ≤ n) (hl : last ≠ 0) (he : last = Det.det k M) (hn : n ≤ 1000) (hD : ∀ i j, i < n → j < n → (Det.D M k i j).natAbs ≤ 2 ^ W) (hW : W < 60000000) (hR : ∀ a x, k ≤ a → a < n → k ≤ x → x < n → R a x = Det.D M k a x)
    (h : ∀ μ' R' o5 o7, Mt μ0 μ' n n c q R' → (∀ a x, k < a → a < n → k < x → x < n → R' a x = Det.D M (k + 1) a x) → R' k k = Det.D M k k k → Nn (evW d c sign last (some (.int (k : Nat))) o5 o6 o7 o8) μ') :
    Ws (runS (tb P N) b sRows (evW d c sign last (some (.int (k : Nat))) o5 o6 o7 o8) μ) Nn Rt Bk Ct X := by
  refine ws_forRange ?_
  simp only [evW, ws_ife, ws_set, ws_sub, ws_ret_, ws_expr, ws_pass, ws_retn, ws_brk, ws_cnt, x_cmp, x_cmp2, x_ix, x_int, x_bl, x_str, x_non, x_npart, x_bin, x_neg, x_not, x_and, x_or, x_ife, x_lst, x_tup, x_call, x_bi, x_thaw, x_glob, ws_nilE, ws_consE, y_var, List.getElem?_cons_zero, List.getElem?_cons_succ, Option.some.injEq, exists_eq_left', List.set_cons_zero, List.set_cons_succ, c_gt, c_lt, c_le, c_ge, c_eq, c_ne, t_bl, t_int, n_add, n_sub, n_mul, n_mod, n_fdiv, n_pow, n_neg, ix_lst, ix_tup, decide_eq_true_eq, decide_eq_false_iff_not, i_r2, hT.len, VM.D.int.injEq]
  refine ⟨by rw [small_of (by omega) (by omega), small_of (by omega) (by omega)]; rfl, (k : Int) + 1, _, fun t ρ' μ' => ∃ R' o5 o7, ρ' = evW d c sign last (some (.int (k : Nat))) o5 o6 o7 o8 ∧ Mt μ0 μ' n n c q R' ∧ Wz M n k (k + 1 + t) 0 R', rfl, ⟨R, o5, o7, rfl, hT, fun a x h1 h2 h3 h4 => ?_⟩, fun t ρ' μ' ht hI => ?_, fun ρ' μ' hI => ?_⟩
  · rw [if_neg (by omega)]; exact hR a x h1 h2 h3 h4
  · obtain ⟨R', o5, o7, rfl, hT', hz⟩ := hI
    simp only [evW, ws_cons, ws_nil, List.set_cons_succ, List.set_cons_zero]
    refine ws_forRange ?_
    simp only [ws_ife, ws_set, ws_sub, ws_ret_, ws_expr, ws_pass, ws_retn, ws_brk, ws_cnt, x_cmp, x_cmp2, x_ix, x_int, x_bl, x_str, x_non, x_npart, x_bin, x_neg, x_not, x_and, x_or, x_ife, x_lst, x_tup, x_call, x_bi, x_thaw, x_glob, ws_nilE, ws_consE, y_var, List.getElem?_cons_zero, List.getElem?_cons_succ, Option.some.injEq, exists_eq_left', List.set_cons_zero, List.set_cons_succ, c_gt, c_lt, c_le, c_ge, c_eq, c_ne, t_bl, t_int, n_add, n_sub, n_mul, n_mod, n_fdiv, n_pow, n_neg, ix_lst, ix_tup, decide_eq_true_eq, decide_eq_false_iff_not, i_r2, hT'.len, VM.D.int.injEq]
    refine ⟨by rw [small_of (by omega) (by omega), small_of (by omega) (by omega)]; rfl, (k : Int) + 1, _, fun s ρ' μ' => ∃ R' o7, ρ' = evW d c sign last (some (.int (k : Nat))) (some (.int (((k + 1 + t : Nat)) : Int))) o6 o7 o8 ∧ Mt μ0 μ' n n c q R' ∧ Wz M n k (k + 1 + t) (k + 1 + s) R', rfl, ⟨R', o7, ?_, hT', fun a x h1 h2 h3 h4 => ?_⟩, fun s ρ' μ' hs hJ => ?_, fun ρ' μ' hJ => ?_⟩
    · rw [show (k : Int) + 1 + (t : Nat) = ((k + 1 + t : Nat) : Int) by omega]
    · rw [hz a x h1 h2 h3 h4]
      by_cases e : k < a ∧ k < x ∧ (a < k + 1 + t ∨ (a = k + 1 + t ∧ x < 0))
      · rw [if_pos e, if_pos (by omega)]
      · rw [if_neg e, if_neg (by omega)]
    · obtain ⟨R2, o7, rfl, hT2, hz2⟩ := hJ
      simp only [evW, ws_cons, ws_nil, List.set_cons_succ, List.set_cons_zero]
      rw [show (k : Int) + 1 + (s : Nat) = ((k + 1 + s : Nat) : Int) by omega]
      exact inner hT2 hk hl he hn hD hW (i := k + 1 + t) (by omega) (by omega) (j := k + 1 + s) (by omega) (by omega) hz2 fun μ3 R3 hT3 hz3 => ⟨R3, _, rfl, hT3, hz3⟩
    · obtain ⟨R2, o7, rfl, hT2, hz2⟩ := hJ
      refine ⟨R2, _, _, rfl, hT2, fun a x h1 h2 h3 h4 => ?_⟩
      rw [hz2 a x h1 h2 h3 h4]
      by_cases e : k < a ∧ k < x ∧ (a < k + 1 + t ∨ (a = k + 1 + t ∧ x < k + 1 + ((n : Int) - ((k : Int) + 1)).toNat))
      · rw [if_pos e, if_pos (by omega)]
      · rw [if_neg e, if_neg (by omega)]
  · obtain ⟨R', o5, o7, rfl, hT', hz⟩ := hI
    refine h μ' R' o5 o7 hT' (fun a x h1 h2 h3 h4 => ?_) ?_
    · rw [hz a x (by omega) h2 (by omega) h4, if_pos (by omega)]
    · rw [hz k k (by omega) (by omega) (by omega) (by omega), if_neg (by omega)]
end
end VM

set_option Elab.async false
set_option maxRecDepth 10000
set_option autoImplicit false
set_option linter.unusedVariables false
set_option linter.unusedSimpArgs false
/-! worth_in: the head, the exchange, the whole -/
namespace VM
open PySem L2
theorem ws_nx' {ρ : Ev} {μ : Sto} {N Bk Ct : Ev → Sto → Prop} {Rt : D → Nat → Sto → Prop} {X : Exc → Ev → Sto → Prop} : Ws (.nx ρ μ) N Rt Bk Ct X ↔ N ρ μ := ws_nx
theorem ws_sub2 {T : Tb} {b : Nat} {ρ : Ev} {μ : Sto} {o i o2 i2 e : VM.E} {N Bk Ct : Ev → Sto → Prop} {Rt : D → Nat → Sto → Prop} {X : Exc → Ev → Sto → Prop}
    (h : Wp (evE T b e ρ μ) (fun d μ1 => ∃ x y, d.1 = .tup [x, y] ∧ Wp (evE T b o ρ μ1) (fun od μ2 => Wp (evE T b i ρ μ2) (fun id μ3 => ∃ μ4, setD b od.1 id.1 x μ3 = some μ4 ∧ Wp (evE T b o2 ρ μ4) (fun od2 μ5 => Wp (evE T b i2 ρ μ5) (fun id2 μ6 => ∃ μ7, setD b od2.1 id2.1 y μ6 = some μ7 ∧ N ρ μ7) NoX) NoX) NoX) NoX) (fun x μ => X x ρ μ)) :
    Ws (runS T b (.set (.tup (.cons (.sub o i) (.cons (.sub o2 i2) .nil))) e) ρ μ) N Rt Bk Ct X := by
  show Ws ((evE T b e ρ μ).st ρ fun d μ1 => onlyNx (asg T b (.tup (.cons (.sub o i) (.cons (.sub o2 i2) .nil))) d.1 ρ μ1)) N Rt Bk Ct X
  rw [ws_st]
  refine wp_mono h (fun d μ1 hd => ?_) fun _ _ h => h
  obtain ⟨x, y, e1, q⟩ := hd
  rw [e1]
  have one : ∀ {o i : VM.E} {v : D} {μ1 : Sto} {Q : Sto → Prop}, Wp (evE T b o ρ μ1) (fun od μ2 => Wp (evE T b i ρ μ2) (fun id μ3 => ∃ μ4, setD b od.1 id.1 v μ3 = some μ4 ∧ Q μ4) NoX) NoX → ∃ μ4, asg T b (.sub o i) v ρ μ1 = .nx ρ μ4 ∧ Q μ4 := by
    intro o i v μ1 Q h
    rw [asg_sub]
    simp only [wpS] at h
    cases ho : evE T b o ρ μ1 with
    | bad => rw [ho] at h; exact h.elim
    | err x μ2 => rw [ho] at h; exact h.elim
    | ok od μ2 =>
      rw [ho] at h
      have h : U.Wp (evE T b i ρ μ2) (fun id μ3 => ∃ μ4, setD b od.1 id.1 v μ3 = some μ4 ∧ Q μ4) NoX := h
      show ∃ μ4, (match evE T b i ρ μ2 with
        | .ok id μ2 => match setD b od.1 id.1 v μ2 with | some μ3 => RS.nx ρ μ3 | none => .bad
        | .err x μ2 => .err x ρ μ2
        | .bad => .bad) = .nx ρ μ4 ∧ Q μ4
      cases hi : evE T b i ρ μ2 with
      | bad => rw [hi] at h; exact h.elim
      | err x μ2 => rw [hi] at h; exact h.elim
      | ok id μ3 =>
        rw [hi] at h
        obtain ⟨μ4, hs, hq⟩ := h
        refine ⟨μ4, ?_, hq⟩
        show (match setD b od.1 id.1 v μ3 with | some μ3 => RS.nx ρ μ3 | none => .bad) = _
        rw [hs]
  obtain ⟨μ4, ha, q⟩ := one q
  obtain ⟨μ7, hb, q⟩ := one q
  show Ws (onlyNx (asgs T b (.cons (.sub o i) (.cons (.sub o2 i2) .nil)) [x, y] ρ μ1)) N Rt Bk Ct X
  have e2 : asgs T b (.cons (.sub o i) (.cons (.sub o2 i2) .nil)) [x, y] ρ μ1 = .nx ρ μ7 := by
    show (match asg T b (.sub o i) x ρ μ1 with
      | .nx ρ1 μ1 => asgs T b (.cons (.sub o2 i2) .nil) [y] ρ1 μ1
      | r => r) = _
    rw [ha]
    show (match asg T b (.sub o2 i2) y ρ μ4 with
      | .nx ρ1 μ1 => asgs T b .nil [] ρ1 μ1
      | r => r) = _
    rw [hb]; rfl
  rw [e2]; exact ws_nx.mpr q
section
variable {μ0 μ : Sto} {n c b k : Nat} {q : Nat → Nat} {R M : Det.Mx} {P : Pg} {d : D} {sign last : Int} {o4 o5 o6 o7 o8 : Option D} {Nn Bk Ct : Ev → Sto → Prop} {Rt : D → Nat → Sto → Prop} {X : Exc → Ev → Sto → Prop} {E : Exc → Sto → Prop} {N : Nat}
abbrev sHeads : VM.S := (.set (.name 6) (.lc (.var 5) (.name 5) (.rng2 (.var 4) (.bi "len" (.cons (.var 1) .nil))) (.cmp .NotEq (.ix (.ix (.var 1) (.var 5)) (.var 4)) (.int 0)) [5]))
theorem heads (hT : Mt μ0 μ n n c q R) (hk : k + 1 ≤ n) (hn : n ≤ 900)
    (h0 : (∀ a, k ≤ a → a < n → R a k = 0) → Nn (evW d c sign last (some (.int (k : Nat))) o5 (some (.lst [])) o7 o8) μ)
    (h1 : ∀ (a : Nat) r, k ≤ a → a < n → R a k ≠ 0 → Nn (evW d c sign last (some (.int (k : Nat))) o5 (some (.lst ((((a : Nat) : Int) :: r).map .int))) o7 o8) μ) :
    Ws (runS (tb P N) b sHeads (evW d c sign last (some (.int (k : Nat))) o5 o6 o7 o8) μ) Nn Rt Bk Ct X := by
  simp only [evW, ws_ife, ws_set, ws_sub, ws_ret_, ws_expr, ws_pass, ws_retn, ws_brk, ws_cnt, x_cmp, x_cmp2, x_ix, x_int, x_bl, x_str, x_non, x_npart, x_bin, x_neg, x_not, x_and, x_or, x_ife, x_lst, x_tup, x_call, x_bi, x_thaw, x_glob, ws_nilE, ws_consE, y_var, List.getElem?_cons_zero, List.getElem?_cons_succ, Option.some.injEq, exists_eq_left', List.set_cons_zero, List.set_cons_succ, c_gt, c_lt, c_le, c_ge, c_eq, c_ne, t_bl, t_int, n_add, n_sub, n_mul, n_mod, n_fdiv, n_pow, n_neg, ix_lst, ix_tup, decide_eq_true_eq, decide_eq_false_iff_not, x_lc, i_r2, hT.len, VM.D.int.injEq]
  refine ⟨by rw [small_of (by omega) (by omega), small_of (by omega) (by omega)]; rfl, ?_⟩
  refine wp_lcRange (fun t acc μ' => μ' = μ ∧ ∃ r : List Int, acc = r.map .int ∧ r.length ≤ t ∧ ((r = [] ∧ ∀ a, k ≤ a → a < k + t → R a k = 0) ∨ ∃ (a : Nat) (r' : List Int), r = (a : Int) :: r' ∧ k ≤ a ∧ a < n ∧ R a k ≠ 0)) ⟨rfl, [], rfl, Nat.le_refl _, .inl ⟨rfl, fun a _ _ => by omega⟩⟩ (fun t acc μ' ht hI => ?_) fun acc μ' hI => ?_
  · obtain ⟨rfl, r, rfl, hl, hr⟩ := hI
    have i1 := hT.ix (i := (k : Int) + (t : Nat)) (by omega) (by omega)
    have x1 := hT.ixR (i := k + t) (j := (k : Int)) (by omega) (by omega) (by omega)
    rw [show ((k : Int) + (t : Nat)).toNat = k + t by omega] at i1
    rw [Int.toNat_natCast] at x1
    simp only [ws_ife, ws_set, ws_sub, ws_ret_, ws_expr, ws_pass, ws_retn, ws_brk, ws_cnt, x_cmp, x_cmp2, x_ix, x_int, x_bl, x_str, x_non, x_npart, x_bin, x_neg, x_not, x_and, x_or, x_ife, x_lst, x_tup, x_call, x_bi, x_thaw, x_glob, ws_nilE, ws_consE, y_var, List.getElem?_cons_zero, List.getElem?_cons_succ, Option.some.injEq, exists_eq_left', List.set_cons_zero, List.set_cons_succ, c_gt, c_lt, c_le, c_ge, c_eq, c_ne, t_bl, t_int, n_add, n_sub, n_mul, n_mod, n_fdiv, n_pow, n_neg, ix_lst, ix_tup, decide_eq_true_eq, decide_eq_false_iff_not, lc_name, wipe1, i1, x1]
    refine ⟨fun hz => ⟨szr (by rw [List.length_map]; omega), trivial, r ++ [(k : Int) + (t : Nat)], by simp, by simp; omega, .inr ?_⟩, fun hz => ⟨trivial, r, rfl, by omega, ?_⟩⟩
    · rcases hr with ⟨rfl, _⟩ | ⟨a, r', rfl, h⟩
      · exact ⟨k + t, [], by simp, by omega, by omega, hz⟩
      · exact ⟨a, r' ++ [(k : Int) + (t : Nat)], by simp, h⟩
    · rcases hr with ⟨rfl, h⟩ | h
      · refine .inl ⟨rfl, fun a h1 h2 => ?_⟩
        by_cases e : a = k + t
        · subst e; exact Classical.not_not.mp hz
        · exact h a h1 (by omega)
      · exact .inr h
  · obtain ⟨rfl, r, rfl, hl, hr⟩ := hI
    rcases hr with ⟨rfl, h⟩ | ⟨a, r', rfl, g1, g2, g3⟩
    · exact h0 fun a h1 h2 => h a h1 (by omega)
    · exact h1 a r' g1 g2 g3
abbrev sSwap : Ss := (.cons (.set (.tup (.cons (.sub (.var 1) (.var 4)) (.cons (.sub (.var 1) (.ix (.var 6) (.int 0))) .nil))) (.tup (.cons (.ix (.var 1) (.ix (.var 6) (.int 0))) (.cons (.ix (.var 1) (.var 4)) .nil)))) (.cons (.set (.name 2) (.neg (.var 2))) .nil))
theorem swap (hT : Mt μ0 μ n n c q R) (hb : b ≤ c) {a : Nat} {r : List Int} (hk : k < n) (ha : a < n)
    (h : ∀ μ' q', Mt μ0 μ' n n c q' (fun x => R (swI k a x)) → Nn (evW d c (-sign) last (some (.int (k : Nat))) o5 (some (.lst ((((a : Nat) : Int) :: r).map .int))) o7 o8) μ') :
    Ws (runSs (tb P N) b sSwap (evW d c sign last (some (.int (k : Nat))) o5 (some (.lst ((((a : Nat) : Int) :: r).map .int))) o7 o8) μ) Nn Rt Bk Ct X := by
  have i1 := hT.ix (i := (a : Int)) (by omega) (by omega)
  have i2 := hT.ix (i := (k : Int)) (by omega) (by omega)
  obtain ⟨μ1, μ2, s1, s2, hT'⟩ := hT.swap (b := b) (i := (k : Int)) (j := (a : Int)) (by omega) (by omega) (by omega) (by omega) hb
  simp only [Int.toNat_natCast] at i1 i2 s1 s2 hT'
  rw [ws_cons]
  refine ws_sub2 ?_
  simp only [evW, ws_ife, ws_set, ws_sub, ws_ret_, ws_expr, ws_pass, ws_retn, ws_brk, ws_cnt, x_cmp, x_cmp2, x_ix, x_int, x_bl, x_str, x_non, x_npart, x_bin, x_neg, x_not, x_and, x_or, x_ife, x_lst, x_tup, x_call, x_bi, x_thaw, x_glob, ws_nilE, ws_consE, y_var, List.getElem?_cons_zero, List.getElem?_cons_succ, Option.some.injEq, exists_eq_left', List.set_cons_zero, List.set_cons_succ, c_gt, c_lt, c_le, c_ge, c_eq, c_ne, t_bl, t_int, n_add, n_sub, n_mul, n_mod, n_fdiv, n_pow, n_neg, ix_lst, ix_tup, decide_eq_true_eq, decide_eq_false_iff_not, List.map_cons, at0, i1, i2, List.length_cons, List.length_nil]
  refine ⟨by decide, _, _, rfl, μ1, s1, μ2, s2, ?_⟩
  simp only [ws_cons, ws_nil, ws_ife, ws_set, ws_sub, ws_ret_, ws_expr, ws_pass, ws_retn, ws_brk, ws_cnt, x_cmp, x_cmp2, x_ix, x_int, x_bl, x_str, x_non, x_npart, x_bin, x_neg, x_not, x_and, x_or, x_ife, x_lst, x_tup, x_call, x_bi, x_thaw, x_glob, ws_nilE, ws_consE, y_var, List.getElem?_cons_zero, List.getElem?_cons_succ, Option.some.injEq, exists_eq_left', List.set_cons_zero, List.set_cons_succ, c_gt, c_lt, c_le, c_ge, c_eq, c_ne, t_bl, t_int, n_add, n_sub, n_mul, n_mod, n_fdiv, n_pow, n_neg, ix_lst, ix_tup, decide_eq_true_eq, decide_eq_false_iff_not]
  exact h μ2 _ hT'
/-- the state ahead of round k -/
def Wk (A : Det.Mx) (d : D) (μ0 : Sto) (n c B k : Nat) (ρ : Ev) (μ : Sto) : Prop := ∃ (M R : Det.Mx) (q : Nat → Nat) (sign last : Int) (o4 o5 o6 o7 o8 : Option D), ρ = evW d c sign last o4 o5 o6 o7 o8 ∧ Mt μ0 μ n n c q R ∧ (sign = 1 ∨ sign = -1) ∧ sign * Det.det n M = Det.det n A ∧ last = Det.det k M ∧ last ≠ 0 ∧ (∀ i j, i < n → j < n → (M i j).natAbs ≤ 2 ^ B) ∧ ∀ i j, k ≤ i → i < n → k ≤ j → j < n → R i j = Det.D M k i j
abbrev sRound : Ss := (.cons sHeads
  (.cons (.ife (.cmp .Eq (.var 6) (.lst .nil)) (.cons (.ret (.int 0))
  .nil) .nil)
  (.cons (.ife (.cmp .NotEq (.ix (.var 6) (.int 0)) (.var 4)) sSwap .nil)
  (.cons sRows
  (.cons (.set (.name 3) (.ix (.ix (.var 1) (.var 4)) (.var 4)))
  .nil)))))
theorem swI_swp {k a : Nat} {M : Det.Mx} : (fun x => M (swI k a x)) = Det.swp k a M := by
  funext x
  unfold swI Det.swp
  split
  · rfl
  · split <;> rfl
theorem round_ {A : Det.Mx} {B : Nat} (hn : n ≤ 900) (hB : n * (B + n) < 60000000) (hb : b ≤ c) (hk : k + 1 < n) {ρ : Ev} (hI : Wk A d μ0 n c B k ρ μ)
    (h : ∀ ρ' μ', Wk A d μ0 n c B (k + 1) ρ' μ' → Nn ρ' μ') (hr : Det.det n A = 0 → ∀ μ', μ'.take μ0.length = μ0 → Rt (.int 0) 0 μ') :
    Ws (runSs (tb P N) b sRound (ρ.set 4 (some (.int (k : Nat)))) μ) Nn Rt Bk Ct X := by
  obtain ⟨M, R, q, sign, last, o4, o5, o6, o7, o8, rfl, hT, hs, hd, hl, hl0, hM, hR⟩ := hI
  show Ws (runSs (tb P N) b sRound (evW d c sign last (some (.int (k : Nat))) o5 o6 o7 o8) μ) Nn Rt Bk Ct X
  -- what comes behind the exchange
  have rest : ∀ {M R : Det.Mx} {q : Nat → Nat} {sign : Int} {o6 : Option D} {μ : Sto}, Mt μ0 μ n n c q R → (sign = 1 ∨ sign = -1) → sign * Det.det n M = Det.det n A → last = Det.det k M → (∀ i j, i < n → j < n → (M i j).natAbs ≤ 2 ^ B) → (∀ i j, k ≤ i → i < n → k ≤ j → j < n → R i j = Det.D M k i j) → R k k ≠ 0 →
      Ws (runSs (tb P N) b (.cons sRows (.cons (.set (.name 3) (.ix (.ix (.var 1) (.var 4)) (.var 4))) .nil)) (evW d c sign last (some (.int (k : Nat))) o5 o6 o7 o8) μ) Nn Rt Bk Ct X := by
    intro M R q sign o6 μ hT hs hd hl hM hR hp
    rw [ws_cons]
    refine elim hT (by omega) hl0 hl (by omega) (fun i j hi hj => Det.D_le hM (by omega) hi hj) hB (fun a x h1 h2 h3 h4 => hR a x h1 h2 h3 h4) fun μ' R' o5 o7 hT' g1 g2 => ?_
    have i1 := hT'.ix (i := (k : Int)) (by omega) (by omega)
    have x1 := hT'.ixR (i := k) (j := (k : Int)) (by omega) (by omega) (by omega)
    simp only [Int.toNat_natCast, g2] at i1 x1
    simp only [ws_cons, ws_nil, evW, ws_ife, ws_set, ws_sub, ws_ret_, ws_expr, ws_pass, ws_retn, ws_brk, ws_cnt, x_cmp, x_cmp2, x_ix, x_int, x_bl, x_str, x_non, x_npart, x_bin, x_neg, x_not, x_and, x_or, x_ife, x_lst, x_tup, x_call, x_bi, x_thaw, x_glob, ws_nilE, ws_consE, y_var, List.getElem?_cons_zero, List.getElem?_cons_succ, Option.some.injEq, exists_eq_left', List.set_cons_zero, List.set_cons_succ, c_gt, c_lt, c_le, c_ge, c_eq, c_ne, t_bl, t_int, n_add, n_sub, n_mul, n_mod, n_fdiv, n_pow, n_neg, ix_lst, ix_tup, decide_eq_true_eq, decide_eq_false_iff_not, i1, x1]
    rw [hR k k (by omega) (by omega) (by omega) (by omega)] at hp
    exact h _ _ ⟨M, R', q, sign, _, _, _, _, _, _, rfl, hT', hs, hd, Det.D_lead, hp, hM, fun i j h1 h2 h3 h4 => g1 i j (by omega) h2 (by omega) h4⟩
  rw [ws_cons]
  refine heads hT (by omega) hn (fun hz => ?_) fun a r h1 h2 h3 => ?_
  · have : Det.det n A = 0 := by rw [← hd, Det.stuck (by omega : k < n) (by rw [← hl]; exact hl0) fun i hi hi2 => by rw [← hR i k hi hi2 (by omega) (by omega)]; exact hz i hi hi2, Int.mul_zero]
    have e : cmpD .Eq (.lst []) (.lst []) μ = some true := eq_ints (r := []) (s := []) rfl rfl
    simp only [ws_cons, ws_nil, evW, ws_ife, ws_set, ws_sub, ws_ret_, ws_expr, ws_pass, ws_retn, ws_brk, ws_cnt, x_cmp, x_cmp2, x_ix, x_int, x_bl, x_str, x_non, x_npart, x_bin, x_neg, x_not, x_and, x_or, x_ife, x_lst, x_tup, x_call, x_bi, x_thaw, x_glob, ws_nilE, ws_consE, y_var, List.getElem?_cons_zero, List.getElem?_cons_succ, Option.some.injEq, exists_eq_left', List.set_cons_zero, List.set_cons_succ, c_gt, c_lt, c_le, c_ge, c_eq, c_ne, t_bl, t_int, n_add, n_sub, n_mul, n_mod, n_fdiv, n_pow, n_neg, ix_lst, ix_tup, decide_eq_true_eq, decide_eq_false_iff_not, e, List.length_nil]
    exact ⟨by decide, fun _ => hr this _ hT.take, fun z => absurd z (by decide)⟩
  · have e : cmpD .Eq (.lst (((a : Int) :: r).map .int)) (.lst []) μ = some false := eq_ints (r := (a : Int) :: r) (s := []) rfl rfl
    rw [ws_cons]
    simp only [evW, ws_ife, ws_set, ws_sub, ws_ret_, ws_expr, ws_pass, ws_retn, ws_brk, ws_cnt, x_cmp, x_cmp2, x_ix, x_int, x_bl, x_str, x_non, x_npart, x_bin, x_neg, x_not, x_and, x_or, x_ife, x_lst, x_tup, x_call, x_bi, x_thaw, x_glob, ws_nilE, ws_consE, y_var, List.getElem?_cons_zero, List.getElem?_cons_succ, Option.some.injEq, exists_eq_left', List.set_cons_zero, List.set_cons_succ, c_gt, c_lt, c_le, c_ge, c_eq, c_ne, t_bl, t_int, n_add, n_sub, n_mul, n_mod, n_fdiv, n_pow, n_neg, ix_lst, ix_tup, decide_eq_true_eq, decide_eq_false_iff_not, e, List.length_nil]
    refine ⟨by decide, fun z => absurd z (by decide), fun _ => ?_⟩
    rw [ws_nil, ws_cons]
    simp only [List.map_cons, at0, ws_ife, ws_set, ws_sub, ws_ret_, ws_expr, ws_pass, ws_retn, ws_brk, ws_cnt, x_cmp, x_cmp2, x_ix, x_int, x_bl, x_str, x_non, x_npart, x_bin, x_neg, x_not, x_and, x_or, x_ife, x_lst, x_tup, x_call, x_bi, x_thaw, x_glob, ws_nilE, ws_consE, y_var, List.getElem?_cons_zero, List.getElem?_cons_succ, Option.some.injEq, exists_eq_left', List.set_cons_zero, List.set_cons_succ, c_gt, c_lt, c_le, c_ge, c_eq, c_ne, t_bl, t_int, n_add, n_sub, n_mul, n_mod, n_fdiv, n_pow, n_neg, ix_lst, ix_tup, decide_eq_true_eq, decide_eq_false_iff_not]
    refine ⟨fun hne => ?_, fun he => ?_⟩
    · have hka : k < a := by omega
      refine swap (r := r) hT hb (k := k) (a := a) (by omega) h2 fun μ' q' hT' => ?_
      refine rest (M := Det.swp k a M) hT' ?_ ?_ ?_ (fun i j hi hj => ?_) (fun i j g1 g2 g3 g4 => ?_) ?_
      · rcases hs with rfl | rfl
        · exact .inr rfl
        · exact .inl rfl
      · rw [(Det.det_form n).swp (by omega) h2 (by omega), Int.neg_mul_neg]; exact hd
      · rw [Det.det_swp_lead (i := 0) (by omega)]; exact hl
      · unfold Det.swp; split
        · exact hM _ _ h2 hj
        · split
          · exact hM _ _ (by omega) hj
          · exact hM _ _ hi hj
      · rw [Det.D_swp (by omega)]
        show R (swI k a i) j = Det.D M k (swI k a i) j
        refine hR _ _ ?_ (swI_lt (by omega) h2 g2) g3 g4
        unfold swI; split
        · omega
        · split <;> omega
      · show R (swI k a k) k ≠ 0
        unfold swI; rw [if_pos rfl]; exact h3
    · have hka : a = k := by omega
      subst hka
      rw [ws_nil]
      exact rest hT hs hd hl hM hR h3
/-- THE WORTH OF A TABLE -/
theorem worth_in {A : Det.Mx} {B : Nat} {Q : D × Nat → Sto → Prop} (hp : P.fns "worth_in" = some f_worth_in) (t : TA μ d n n A) (hn1 : 1 ≤ n) (hn : n ≤ 900) (hA : ∀ i j, i < n → j < n → (A i j).natAbs ≤ 2 ^ B) (hB : n * (B + n) < 60000000) (hq : Q (.int (Det.det n A), 0) μ) : Wp ((tb P (k + 1)).call "worth_in" b [d] μ) Q E := by
  refine (wp_call hp).mpr ((wp_run (by rfl)).mpr ?_)
  unfold b_worth_in
  simp only [List.map_cons, List.map_nil, List.replicate, List.cons_append, List.nil_append]
  obtain ⟨ds, h1, h2, h3⟩ := t
  obtain ⟨s, hs1, hs2, hs3⟩ := src_of h1
  have hs := srcIt_of h1 hs1
  rw [ws_cons]
  unfold s_worth_in_0
  rw [ws_set, x_thaw, x_lc, i_exD]
  simp only [y_var, List.getElem?_cons_zero, Option.some.injEq, exists_eq_left', hs]
  refine wp_copy (n := n) (R := A) h1 h2 hn h3 hs (by show 8 < 9; decide) fun μ' g1 g2 g3 => ?_
  refine ⟨_, 0, rfl, ?_⟩
  have hT := Mt.made g1 g2 g3
  generalize hμ1 : (μ' ++ [C.lst (genL n fun a => D.cell (μ.length + a))]) = μ1 at hT ⊢
  clear hμ1
  unfold s_worth_in_1 s_worth_in_2
  rw [ws_cons, ws_set, x_int, ws_cons, ws_set, x_int, ws_cons]
  unfold s_worth_in_3
  simp only [List.set_cons_zero, List.set_cons_succ]
  refine ws_forRange ?_
  simp only [ws_ife, ws_set, ws_sub, ws_ret_, ws_expr, ws_pass, ws_retn, ws_brk, ws_cnt, x_cmp, x_cmp2, x_ix, x_int, x_bl, x_str, x_non, x_npart, x_bin, x_neg, x_not, x_and, x_or, x_ife, x_lst, x_tup, x_call, x_bi, x_thaw, x_glob, ws_nilE, ws_consE, y_var, List.getElem?_cons_zero, List.getElem?_cons_succ, Option.some.injEq, exists_eq_left', List.set_cons_zero, List.set_cons_succ, c_gt, c_lt, c_le, c_ge, c_eq, c_ne, t_bl, t_int, n_add, n_sub, n_mul, n_mod, n_fdiv, n_pow, n_neg, ix_lst, ix_tup, decide_eq_true_eq, decide_eq_false_iff_not, i_r1, hT.len, VM.D.int.injEq]
  refine ⟨small_of (by omega) (by omega), 0, _, fun t ρ' μ2 => Wk A d μ n μ'.length B t ρ' μ2, rfl, ⟨A, A, _, 1, 1, none, none, none, none, none, rfl, hT, .inl rfl, by omega, rfl, by decide, hA, fun i j _ _ _ _ => Det.D0.symm⟩, fun t ρ' μ2 ht hI => ?_, fun ρ' μ2 hI => ?_⟩
  · rw [show (0 : Int) + (t : Nat) = ((t : Nat) : Int) by omega]
    refine round_ hn hB (by omega) (by omega) hI (fun _ _ h => h) fun hz μ3 ht3 => ?_
    exact ⟨_, f_int, by rw [ht3, ← hz]; exact hq⟩
  · rw [show ((n : Int) - 1).toNat = n - 1 by omega] at hI
    obtain ⟨M, R, q, sign, last, o4, o5, o6, o7, o8, rfl, hT, hs, hd, hl, hl0, hM, hR⟩ := hI
    have it : itemsL μ2 (.cell μ'.length) = some (genL n fun i => D.cell (q i)) := by
      show (match μ2[μ'.length]? with | some (C.lst xs) => some xs | _ => none) = _
      rw [hT.top]
    have ir : itemsL μ2 (.cell (q (n - 1))) = some (rowL n (R (n - 1))) := by
      show (match μ2[q (n - 1)]? with | some (C.lst xs) => some xs | _ => none) = _
      rw [hT.row _ (by omega)]
    have hr := hR (n - 1) (n - 1) (by omega) (by omega) (by omega) (by omega)
    rw [Det.D_lead, show n - 1 + 1 = n by omega] at hr
    have hle : (Det.det n M).natAbs.log2 ≤ n * (B + n) + 1 := lge (Det.det_le hM)
    have hsl : sign.natAbs.log2 ≤ 1 := by rcases hs with rfl | rfl <;> decide
    unfold s_worth_in_4
    simp only [ws_cons, ws_nil, evW, ws_ife, ws_set, ws_sub, ws_ret_, ws_expr, ws_pass, ws_retn, ws_brk, ws_cnt, x_cmp, x_cmp2, x_ix, x_int, x_bl, x_str, x_non, x_npart, x_bin, x_neg, x_not, x_and, x_or, x_ife, x_lst, x_tup, x_call, x_bi, x_thaw, x_glob, ws_nilE, ws_consE, y_var, List.getElem?_cons_zero, List.getElem?_cons_succ, Option.some.injEq, exists_eq_left', List.set_cons_zero, List.set_cons_succ, c_gt, c_lt, c_le, c_ge, c_eq, c_ne, t_bl, t_int, n_add, n_sub, n_mul, n_mod, n_fdiv, n_pow, n_neg, ix_lst, ix_tup, decide_eq_true_eq, decide_eq_false_iff_not, ix_of it, genL_last hn1, ix_of ir, hr, hd, f_int, hT.take]
    exact ⟨by omega, hq⟩
end
end VM

set_option Elab.async false
set_option maxRecDepth 10000
set_option autoImplicit false
set_option linter.unusedVariables false
set_option linter.unusedSimpArgs false
/-! lists built by append, and handed out -/
namespace VM
open PySem L2
section
variable {μ0 μ : Sto} {n m c b k : Nat} {q : Nat → Nat} {R : Det.Mx} {E : Exc → Sto → Prop} {Q : D × Nat → Sto → Prop}
theorem x_bm {T : Tb} {ρ : Ev} {o : VM.E} {m : Str} {es : VM.Es} : Wp (evE T b (.bm o m es) ρ μ) Q E ↔ Wp (evE T b o ρ μ) (fun d μ1 => ∃ xs, itemsL μ1 d.1 = some xs ∧ Wp (evEs T b es ρ μ1) (fun ds μ2 => Wp (bmD b m d.1 ds μ2) Q E) E) E := by
  show Wp ((evE T b o ρ μ).bind fun d μ1 => match itemsL μ1 d.1 with | none => .bad | some _ => (evEs T b es ρ μ1).bind fun ds μ2 => bmD b m d.1 ds μ2) Q E ↔ _
  have k1 : ∀ (d : VM.D × Nat) (μ1 : Sto), Wp (match itemsL μ1 d.1 with | none => (.bad : R (VM.D × Nat)) | some _ => (evEs T b es ρ μ1).bind fun ds μ2 => bmD b m d.1 ds μ2) Q E ↔ ∃ xs, itemsL μ1 d.1 = some xs ∧ Wp (evEs T b es ρ μ1) (fun ds μ2 => Wp (bmD b m d.1 ds μ2) Q E) E := by
    intro d μ1
    cases itemsL μ1 d.1 with
    | none => exact ⟨fun h => (wp_bad.mp h).elim, fun ⟨_, h, _⟩ => by cases h⟩
    | some xs => exact ⟨fun h => ⟨xs, rfl, wp_bind.mp h⟩, fun ⟨_, h, q⟩ => by cases h; exact wp_bind.mpr q⟩
  simp only [wp_bind, k1]
theorem append_at {l : Nat} {xs : List D} {d : D} (h : μ[l]? = some (.lst xs)) (hx : xs.length < sizeLine) (hp : mayPut b l d = true) : Wp (bmD b "append" (.cell l) [d] μ) Q E ↔ Q (.non, 0) (μ.set l (.lst (xs ++ [d]))) := by
  have e : bmD b "append" (.cell l) [d] μ = .ok (.non, 0) (μ.set l (.lst (xs ++ [d]))) := by
    show (match μ[l]? with | some (C.lst xs) => appendD b l xs [d] μ | _ => R.bad) = _
    rw [h]
    show (if xs.length < sizeLine ∧ mayPut b l d = true then R.ok (D.non, 0) (μ.set l (.lst (xs ++ [d]))) else .bad) = _
    rw [if_pos ⟨hx, hp⟩]
  rw [e]; exact wp_ok
theorem items_cell {l : Nat} {xs : List D} (h : μ[l]? = some (.lst xs)) : itemsL μ (.cell l) = some xs := by
  show (match μ[l]? with | some (C.lst xs) => some xs | _ => none) = _
  rw [h]
theorem put_own {l : Nat} {d : D} (h : b ≤ l) : mayPut b l d = true := by unfold mayPut; simp [h]
theorem Mt.new : Mt μ (μ ++ [.lst []]) 0 m μ.length q R := ⟨by simp, fun k hk => by rw [List.getElem?_append_left hk], fun i j hi => by omega, fun i hi => by omega, Nat.le_refl _, by rw [List.getElem?_append_right (Nat.le_refl _), Nat.sub_self]; rfl, fun i hi => by omega⟩
theorem Mt.push {f : Nat → Int} (h : Mt μ0 μ n m c q R) : Mt μ0 ((μ ++ [C.lst (rowL m f)]).set c (C.lst ((genL n fun i => D.cell (q i)) ++ [D.cell μ.length]))) (n + 1) m c (fun a => if a < n then q a else μ.length) (fun a => if a < n then R a else f) := by
  have hc := (List.getElem?_eq_some_iff.mp h.top).1
  have hl : (μ ++ [C.lst (rowL m f)]).length = μ.length + 1 := by simp
  have hq : ∀ a, a < n → q a < μ.length := fun a ha => (List.getElem?_eq_some_iff.mp (h.row a ha)).1
  refine ⟨by rw [List.length_set, hl]; have := h.le; omega, fun k hk => ?_, fun i j hi hj e => ?_, fun i hi => ?_, h.top0, ?_, fun a ha => ?_⟩
  · have := h.le; have := h.top0
    rw [List.getElem?_set_ne (by omega), List.getElem?_append_left (by omega)]; exact h.fr k hk
  · by_cases h1 : i < n
    · by_cases h2 : j < n
      · rw [if_pos h1, if_pos h2] at e; exact h.inj i j h1 h2 e
      · rw [if_pos h1, if_neg h2] at e; have := hq i h1; omega
    · by_cases h2 : j < n
      · rw [if_neg h1, if_pos h2] at e; have := hq j h2; omega
      · omega
  · split
    · exact h.own i ‹_›
    · have := h.le; omega
  · rw [List.getElem?_set_self (by omega), ← genL_snoc]
    have e1 : (genL n fun i => D.cell (q i)) = genL n fun i => D.cell (if i < n then q i else μ.length) := genL_congr fun i hi => by rw [if_pos hi]
    rw [e1, if_neg (Nat.lt_irrefl n)]
  · by_cases h1 : a < n
    · rw [if_pos h1, if_pos h1, List.getElem?_set_ne (Ne.symm (h.own a h1).2), List.getElem?_append_left (hq a h1)]
      exact h.row a h1
    · rw [if_neg h1, if_neg h1, List.getElem?_set_ne (by omega), List.getElem?_append_right (Nat.le_refl _), Nat.sub_self]; rfl
theorem foldr_min {x : Nat} (hx : 8 ≤ x) : ∀ xs : List Nat, (∀ y ∈ xs, y = x) → xs.foldr min 8 = 8
  | [], _ => rfl
  | y :: ys, h => by
    rw [List.foldr_cons, foldr_min hx ys fun z hz => h z (List.mem_cons_of_mem _ hz), h y List.mem_cons_self]; omega
/-- a table of one's own, handed out -/
theorem Mt.parts (h : Mt μ0 μ n m c q R) (k : Nat) : frz μ0.length μ (k + 3) (.cell c) = some (tabD n m R) ∧ (ids μ0.length μ (k + 3) (.cell c)).Nodup ∧ dep μ0.length μ (k + 3) (.cell c) = 9 := by
  have hc : ¬ c < μ0.length := by have := h.top0; omega
  have fr : ∀ i, i < n → frz μ0.length μ (k + 2) (.cell (q i)) = some (.lst (rowL m (R i))) := fun i hi => by
    show (if q i < μ0.length then some (D.cell (q i)) else match μ[q i]? with | some (.lst xs) => (xs.mapM (frz μ0.length μ (k + 1))).map D.lst | _ => none) = _
    rw [if_neg (by have := (h.own i hi).1; omega), h.row i hi]
    show ((rowL m (R i)).mapM (frz μ0.length μ (k + 1))).map D.lst = _
    rw [mapM_of (g := id) (fun x hx => by obtain ⟨j, _, rfl⟩ := genL_mem hx; rfl), List.map_id]; rfl
  have f1 : frz μ0.length μ (k + 3) (.cell c) = some (tabD n m R) := by
    show (if c < μ0.length then some (D.cell c) else match μ[c]? with | some (.lst xs) => (xs.mapM (frz μ0.length μ (k + 2))).map D.lst | _ => none) = _
    rw [if_neg hc, h.top]
    show ((genL n fun i => D.cell (q i)).mapM (frz μ0.length μ (k + 2))).map D.lst = _
    have e : (genL n fun i => D.cell (q i)).mapM (frz μ0.length μ (k + 2)) = some (genL n fun i => D.lst (rowL m (R i))) := by
      have key : ∀ l : List Nat, (∀ i ∈ l, i < n) → (l.map fun i => D.cell (q i)).mapM (frz μ0.length μ (k + 2)) = some (l.map fun i => D.lst (rowL m (R i))) := by
        intro l
        induction l with
        | nil => intro _; simp
        | cons a l ih =>
          intro hl
          rw [List.map_cons, List.mapM_cons, fr a (hl a List.mem_cons_self), ih fun i hi => hl i (List.mem_cons_of_mem _ hi)]; rfl
      exact key _ fun i hi => List.mem_range.mp hi
    rw [e]; rfl
  have f2 : ids μ0.length μ (k + 3) (.cell c) = c :: (List.range n).map q := by
    show (if c < μ0.length then [] else match μ[c]? with | some (.lst xs) => c :: xs.flatMap (ids μ0.length μ (k + 2)) | _ => []) = _
    rw [if_neg hc, h.top]
    show c :: (genL n fun i => D.cell (q i)).flatMap (ids μ0.length μ (k + 2)) = _
    congr 1
    have key : ∀ l : List Nat, (∀ i ∈ l, i < n) → (l.map fun i => D.cell (q i)).flatMap (ids μ0.length μ (k + 2)) = l.map q := by
      intro l
      induction l with
      | nil => intro _; rfl
      | cons a l ih =>
        intro hl
        rw [List.map_cons, List.flatMap_cons, ih fun i hi => hl i (List.mem_cons_of_mem _ hi)]
        have : ids μ0.length μ (k + 2) (.cell (q a)) = [q a] := by
          show (if q a < μ0.length then [] else match μ[q a]? with | some (.lst xs) => q a :: xs.flatMap (ids μ0.length μ (k + 1)) | _ => []) = _
          rw [if_neg (by have := (h.own a (hl a List.mem_cons_self)).1; omega), h.row a (hl a List.mem_cons_self)]
          show q a :: (rowL m (R a)).flatMap (ids μ0.length μ (k + 1)) = _
          congr 1
          exact List.flatMap_eq_nil_iff.mpr fun x hx => by obtain ⟨j, _, rfl⟩ := genL_mem hx; rfl
        rw [this]; rfl
    exact key _ fun i hi => List.mem_range.mp hi
  have f3 : dep μ0.length μ (k + 3) (.cell c) = 9 := by
    show (if c < μ0.length then 9 else match μ[c]? with | some (.lst xs) => (xs.map (dep μ0.length μ (k + 2))).foldr min 8 + 1 | _ => 0) = _
    rw [if_neg hc, h.top]
    show ((genL n fun i => D.cell (q i)).map (dep μ0.length μ (k + 2))).foldr min 8 + 1 = 9
    rw [foldr_min (x := 9) (by decide)]
    intro y hy
    obtain ⟨x, hx, rfl⟩ := List.mem_map.mp hy
    obtain ⟨i, hi, rfl⟩ := genL_mem hx
    show (if q i < μ0.length then 9 else match μ[q i]? with | some (.lst xs) => (xs.map (dep μ0.length μ (k + 1))).foldr min 8 + 1 | _ => 0) = _
    rw [if_neg (by have := (h.own i hi).1; omega), h.row i hi]
    show ((rowL m (R i)).map (dep μ0.length μ (k + 1))).foldr min 8 + 1 = 9
    rw [foldr_min (x := 9) (by decide)]
    intro y hy
    obtain ⟨x, hx, rfl⟩ := List.mem_map.mp hy
    obtain ⟨j, _, rfl⟩ := genL_mem hx
    rfl
  have nd : (ids μ0.length μ (k + 3) (.cell c)).Nodup := by
    rw [f2, List.nodup_cons]
    refine ⟨fun hm => ?_, ?_⟩
    · obtain ⟨i, hi, e⟩ := List.mem_map.mp hm
      exact (h.own i (List.mem_range.mp hi)).2 e
    · have : ∀ l : List Nat, l.Nodup → (∀ i ∈ l, i < n) → (l.map q).Nodup := by
        intro l
        induction l with
        | nil => intro _ _; exact List.nodup_nil
        | cons a l ih =>
          intro hd hl
          rw [List.map_cons, List.nodup_cons]
          rw [List.nodup_cons] at hd
          refine ⟨fun hm => ?_, ih hd.2 fun i hi => hl i (List.mem_cons_of_mem _ hi)⟩
          obtain ⟨i, hi, e⟩ := List.mem_map.mp hm
          have := h.inj i a (hl i (List.mem_cons_of_mem _ hi)) (hl a List.mem_cons_self) e
          subst this; exact hd.1 hi
      exact this _ List.nodup_range fun i hi => List.mem_range.mp hi
  exact ⟨f1, nd, f3⟩
theorem Mt.out (h : Mt μ0 μ n m c q R) {f : Nat} : frzTop μ0.length (.cell c) f μ = some (tabD n m R, 9) := by
  have hc : ¬ c < μ0.length := by have := h.top0; omega
  obtain ⟨f1, nd, f3⟩ := h.parts 7
  show (if c < μ0.length then some (D.cell c, 0) else (frz μ0.length μ 10 (.cell c)).map fun d' => (d', ownF μ0.length (.cell c) μ)) = _
  rw [if_neg hc, f1]
  unfold ownF
  rw [if_pos nd, f3]; rfl
/-- a pair of a table of one's own and a text, handed out -/
theorem Mt.out2 (h : Mt μ0 μ n m c q R) {s : Str} : frzTop μ0.length (.tup [.cell c, .str s]) 0 μ = some (.tup [tabD n m R, .str s], 9) := by
  obtain ⟨f1, nd, f3⟩ := h.parts 6
  have e1 : frz μ0.length μ 10 (.tup [.cell c, .str s]) = some (.tup [tabD n m R, .str s]) := by
    show ([D.cell c, .str s].mapM (frz μ0.length μ 9)).map D.tup = _
    rw [List.mapM_cons, f1]; rfl
  have e2 : ids μ0.length μ 10 (.tup [.cell c, .str s]) = ids μ0.length μ 9 (.cell c) := by
    show ids μ0.length μ 9 (.cell c) ++ ([] ++ []) = _
    rw [List.append_nil, List.append_nil]
  have e3 : dep μ0.length μ 10 (.tup [.cell c, .str s]) = 9 := by
    show min (dep μ0.length μ 9 (.cell c)) (min 9 9) = 9
    rw [f3]; rfl
  show (frz μ0.length μ 10 (.tup [.cell c, .str s])).map (fun d' => (d', if 0 = 0 then ownF μ0.length (.tup [.cell c, .str s]) μ else if noRef 9 (.tup [.cell c, .str s]) then 0 else 0)) = _
  rw [e1, if_pos rfl]
  unfold ownF
  rw [e2, if_pos nd, e3]; rfl
theorem out_non {s : Str} : frzTop μ0.length (.tup [.non, .str s]) 0 μ = some (.tup [.non, .str s], 9) := rfl
end
end VM

set_option Elab.async false
set_option maxRecDepth 10000
set_option autoImplicit false
set_option linter.unusedVariables false
set_option linter.unusedSimpArgs false
/-! side_worth, undone -/
namespace VM
open PySem L2
def s_side_worth_0 : VM.S := (.ife (.cmp .Eq (.bi "len" (.cons (.var 0) .nil)) (.int 1)) (.cons (.ret (.int 1))
  .nil) .nil)
def s_side_worth_1 : VM.S := (.set (.name 3) (.call "worth_in" (.cons (.call "less_of" (.cons (.var 0) (.cons (.var 1) (.cons (.var 2) .nil)))) .nil)))
def s_side_worth_2 : VM.S := (.ife (.cmp .Eq (.bin .Mod (.bin .Add (.var 1) (.var 2)) (.int 2)) (.int 1)) (.cons (.set (.name 3) (.neg (.var 3)))
  .nil) .nil)
def s_side_worth_3 : VM.S := (.ret (.var 3))
def b_side_worth : Ss := (.cons s_side_worth_0 (.cons s_side_worth_1 (.cons s_side_worth_2 (.cons s_side_worth_3 .nil))))
def f_side_worth : Fn := ⟨3, 4, false, b_side_worth⟩
def s_undone_0 : VM.S := (.expr (.call "need_table" (.cons (.var 0) .nil)))
def s_undone_1 : VM.S := (.set (.name 1) (.call "worth_in" (.cons (.var 0) .nil)))
def s_undone_2 : VM.S := (.ife (.cmp .NotEq (.bi "abs" (.cons (.var 1) .nil)) (.int 1)) (.cons (.raise_ "NoWorth")
  .nil) .nil)
def s_undone_3 : VM.S := (.set (.name 2) (.thaw (.lst .nil)))
def s_undone_4 : VM.S := (.for_ (.name 3) (.rng1 (.bi "len" (.cons (.var 0) .nil))) (.cons (.expr (.bm (.var 2) "append" (.cons (.thaw (.lc (.bin .Mult (.var 1) (.call "side_worth" (.cons (.var 0) (.cons (.var 4) (.cons (.var 3) .nil))))) (.name 4) (.rng1 (.bi "len" (.cons (.var 0) .nil))) (.bl true) [4])) .nil)))
  .nil))
def s_undone_5 : VM.S := (.ret (.var 2))
def b_undone : Ss := (.cons s_undone_0 (.cons s_undone_1 (.cons s_undone_2 (.cons s_undone_3 (.cons s_undone_4 (.cons s_undone_5 .nil))))))
def f_undone : Fn := ⟨1, 5, false, b_undone⟩
section
variable {P : Pg} {μ : Sto} {d : D} {n m k b : Nat} {A : Det.Mx} {B : Nat} {E : Exc → Sto → Prop} {Q : D × Nat → Sto → Prop}
/-- what the worth of a table leans on -/
structure WoP (P : Pg) : Prop where
  need : P.fns "need_table" = some f_need_table
  worth : P.fns "worth_in" = some f_worth_in
  less : P.fns "less_of" = some f_less_of
  side : P.fns "side_worth" = some f_side_worth
  undone : P.fns "undone" = some f_undone
theorem fmod_nat {a m : Nat} (h : 0 < m) : (a : Int).fmod (m : Int) = ((a % m : Nat) : Int) := by
  rw [Int.fmod_eq_emod_of_nonneg _ (by omega)]; rfl
theorem side_worth (hP : P.fns "side_worth" = some f_side_worth) (hw : P.fns "worth_in" = some f_worth_in) (hl : P.fns "less_of" = some f_less_of) {i j : Nat} (t : TA μ d (n + 1) (n + 1) A) (hi : i < n + 1) (hj : j < n + 1) (hn : n < 400) (hA : ∀ i j, i < n + 1 → j < n + 1 → (A i j).natAbs ≤ 2 ^ B) (hB : n * (B + n) < 60000000)
    (q : Q (.int (Det.sg (i + j) * Det.det n (Det.mnr i j A)), 0) μ) : Wp ((tb P (k + 2)).call "side_worth" b [d, .int i, .int j] μ) Q E := by
  refine (wp_call hP).mpr ((wp_run (by rfl)).mpr ?_)
  unfold b_side_worth s_side_worth_0
  rw [ws_cons]
  simp only [List.map_cons, List.map_nil, List.replicate, List.cons_append, List.nil_append, ws_ife, ws_set, ws_sub, ws_ret_, ws_expr, ws_pass, ws_retn, ws_brk, ws_cnt, x_cmp, x_cmp2, x_ix, x_int, x_bl, x_str, x_non, x_npart, x_bin, x_neg, x_not, x_and, x_or, x_ife, x_lst, x_tup, x_call, x_bi, x_thaw, x_glob, ws_nilE, ws_consE, y_var, List.getElem?_cons_zero, List.getElem?_cons_succ, Option.some.injEq, exists_eq_left', List.set_cons_zero, List.set_cons_succ, c_gt, c_lt, c_le, c_ge, c_eq, c_ne, t_bl, t_int, n_add, n_sub, n_mul, n_mod, n_fdiv, n_pow, n_neg, ix_lst, ix_tup, decide_eq_true_eq, decide_eq_false_iff_not, t.blen]
  refine ⟨fun h => ?_, fun h => ?_⟩
  · have : n = 0 := by omega
    subst this
    have : i = 0 := by omega
    subst this
    have : j = 0 := by omega
    subst this
    simp only [ws_cons, ws_nil, ws_ife, ws_set, ws_sub, ws_ret_, ws_expr, ws_pass, ws_retn, ws_brk, ws_cnt, x_cmp, x_cmp2, x_ix, x_int, x_bl, x_str, x_non, x_npart, x_bin, x_neg, x_not, x_and, x_or, x_ife, x_lst, x_tup, x_call, x_bi, x_thaw, x_glob, ws_nilE, ws_consE, y_var, List.getElem?_cons_zero, List.getElem?_cons_succ, Option.some.injEq, exists_eq_left', List.set_cons_zero, List.set_cons_succ, c_gt, c_lt, c_le, c_ge, c_eq, c_ne, t_bl, t_int, n_add, n_sub, n_mul, n_mod, n_fdiv, n_pow, n_neg, ix_lst, ix_tup, decide_eq_true_eq, decide_eq_false_iff_not, f_int, List.take_length]
    exact q
  · obtain ⟨n', rfl⟩ : ∃ n', n = n' + 1 := ⟨n - 1, by omega⟩
    rw [ws_nil, ws_cons]
    unfold s_side_worth_1
    simp only [ws_ife, ws_set, ws_sub, ws_ret_, ws_expr, ws_pass, ws_retn, ws_brk, ws_cnt, x_cmp, x_cmp2, x_ix, x_int, x_bl, x_str, x_non, x_npart, x_bin, x_neg, x_not, x_and, x_or, x_ife, x_lst, x_tup, x_call, x_bi, x_thaw, x_glob, ws_nilE, ws_consE, y_var, List.getElem?_cons_zero, List.getElem?_cons_succ, Option.some.injEq, exists_eq_left', List.set_cons_zero, List.set_cons_succ, c_gt, c_lt, c_le, c_ge, c_eq, c_ne, t_bl, t_int, n_add, n_sub, n_mul, n_mod, n_fdiv, n_pow, n_neg, ix_lst, ix_tup, decide_eq_true_eq, decide_eq_false_iff_not]
    refine less_of hl t hi hj (by omega) (by omega) ?_
    refine worth_in (B := B) hw TA.of (by omega) (by omega) (fun a x ha hx => hA _ _ (Det.sk_le ha) (Det.sk_le hx)) hB ?_
    rw [ws_cons]
    unfold s_side_worth_2 s_side_worth_3
    simp only [ws_ife, ws_set, ws_sub, ws_ret_, ws_expr, ws_pass, ws_retn, ws_brk, ws_cnt, x_cmp, x_cmp2, x_ix, x_int, x_bl, x_str, x_non, x_npart, x_bin, x_neg, x_not, x_and, x_or, x_ife, x_lst, x_tup, x_call, x_bi, x_thaw, x_glob, ws_nilE, ws_consE, y_var, List.getElem?_cons_zero, List.getElem?_cons_succ, Option.some.injEq, exists_eq_left', List.set_cons_zero, List.set_cons_succ, c_gt, c_lt, c_le, c_ge, c_eq, c_ne, t_bl, t_int, n_add, n_sub, n_mul, n_mod, n_fdiv, n_pow, n_neg, ix_lst, ix_tup, decide_eq_true_eq, decide_eq_false_iff_not]
    have e : ((i : Int) + (j : Int)).fmod 2 = (((i + j) % 2 : Nat) : Int) := by rw [← Int.natCast_add]; exact fmod_nat (by decide)
    rw [e]
    refine ⟨by decide, fun h1 => ?_, fun h1 => ?_⟩
    · simp only [ws_cons, ws_nil, ws_ife, ws_set, ws_sub, ws_ret_, ws_expr, ws_pass, ws_retn, ws_brk, ws_cnt, x_cmp, x_cmp2, x_ix, x_int, x_bl, x_str, x_non, x_npart, x_bin, x_neg, x_not, x_and, x_or, x_ife, x_lst, x_tup, x_call, x_bi, x_thaw, x_glob, ws_nilE, ws_consE, y_var, List.getElem?_cons_zero, List.getElem?_cons_succ, Option.some.injEq, exists_eq_left', List.set_cons_zero, List.set_cons_succ, c_gt, c_lt, c_le, c_ge, c_eq, c_ne, t_bl, t_int, n_add, n_sub, n_mul, n_mod, n_fdiv, n_pow, n_neg, ix_lst, ix_tup, decide_eq_true_eq, decide_eq_false_iff_not, f_int, List.take_length]
      have : Det.sg (i + j) = -1 := by unfold Det.sg; rw [if_neg (by omega)]
      rw [this, Int.neg_one_mul] at q; exact q
    · simp only [ws_cons, ws_nil, ws_ife, ws_set, ws_sub, ws_ret_, ws_expr, ws_pass, ws_retn, ws_brk, ws_cnt, x_cmp, x_cmp2, x_ix, x_int, x_bl, x_str, x_non, x_npart, x_bin, x_neg, x_not, x_and, x_or, x_ife, x_lst, x_tup, x_call, x_bi, x_thaw, x_glob, ws_nilE, ws_consE, y_var, List.getElem?_cons_zero, List.getElem?_cons_succ, Option.some.injEq, exists_eq_left', List.set_cons_zero, List.set_cons_succ, c_gt, c_lt, c_le, c_ge, c_eq, c_ne, t_bl, t_int, n_add, n_sub, n_mul, n_mod, n_fdiv, n_pow, n_neg, ix_lst, ix_tup, decide_eq_true_eq, decide_eq_false_iff_not, f_int, List.take_length]
      have : Det.sg (i + j) = 1 := by unfold Det.sg; rw [if_pos (by omega)]
      rw [this, Int.one_mul] at q; exact q
theorem bi_abs {i : Int} : Wp (biD "abs" [.int i] μ) Q E ↔ Q (.int (if i < 0 then -i else i), 0) μ := wp_ok
/-- what undoes a table of worth 1 or -1 -/
abbrev inv (n : Nat) (A : Det.Mx) : Det.Mx := Det.inv n A
abbrev evU (d : D) (own : Int) (c : Nat) (o3 o4 : Option D) : Ev := [some d, some (.int own), some (.cell c), o3, o4]
theorem undone (h : WoP P) (t : TA μ d n m A) (hn1 : 1 ≤ n) (hn : n < 400) (hA : ∀ i j, i < n → j < m → (A i j).natAbs ≤ 2 ^ B) (hB : n * (B + n) < 60000000)
    (e1 : n ≠ m → E ⟨"NoMatch", none⟩ μ) (e2 : n = m → (Det.det n A).natAbs ≠ 1 → E ⟨"NoWorth", none⟩ μ) (q : n = m → (Det.det n A).natAbs = 1 → Q (tabD n n (inv (n - 1) A), 9) μ) : Wp ((tb P (k + 3)).call "undone" b [d] μ) Q E := by
  refine (wp_call h.undone).mpr ((wp_run (by rfl)).mpr ?_)
  unfold b_undone s_undone_0
  rw [ws_cons]
  simp only [List.map_cons, List.map_nil, List.replicate, List.cons_append, List.nil_append, ws_ife, ws_set, ws_sub, ws_ret_, ws_expr, ws_pass, ws_retn, ws_brk, ws_cnt, x_cmp, x_cmp2, x_ix, x_int, x_bl, x_str, x_non, x_npart, x_bin, x_neg, x_not, x_and, x_or, x_ife, x_lst, x_tup, x_call, x_bi, x_thaw, x_glob, ws_nilE, ws_consE, y_var, List.getElem?_cons_zero, List.getElem?_cons_succ, Option.some.injEq, exists_eq_left', List.set_cons_zero, List.set_cons_succ, c_gt, c_lt, c_le, c_ge, c_eq, c_ne, t_bl, t_int, n_add, n_sub, n_mul, n_mod, n_fdiv, n_pow, n_neg, ix_lst, ix_tup, decide_eq_true_eq, decide_eq_false_iff_not]
  refine need_table h.need t hn1 (fun hm => ?_) (fun hm => by rw [List.take_length]; exact e1 hm)
  subst hm
  obtain ⟨p, rfl⟩ : ∃ p, n = p + 1 := ⟨n - 1, by omega⟩
  have hB' : p * (B + p) < 60000000 := Nat.lt_of_le_of_lt (Nat.mul_le_mul (Nat.le_succ p) (Nat.add_le_add_left (Nat.le_succ p) B)) hB
  rw [ws_cons]
  unfold s_undone_1
  simp only [ws_ife, ws_set, ws_sub, ws_ret_, ws_expr, ws_pass, ws_retn, ws_brk, ws_cnt, x_cmp, x_cmp2, x_ix, x_int, x_bl, x_str, x_non, x_npart, x_bin, x_neg, x_not, x_and, x_or, x_ife, x_lst, x_tup, x_call, x_bi, x_thaw, x_glob, ws_nilE, ws_consE, y_var, List.getElem?_cons_zero, List.getElem?_cons_succ, Option.some.injEq, exists_eq_left', List.set_cons_zero, List.set_cons_succ, c_gt, c_lt, c_le, c_ge, c_eq, c_ne, t_bl, t_int, n_add, n_sub, n_mul, n_mod, n_fdiv, n_pow, n_neg, ix_lst, ix_tup, decide_eq_true_eq, decide_eq_false_iff_not]
  refine worth_in (B := B) h.worth t hn1 (by omega) hA hB ?_
  rw [ws_cons]
  unfold s_undone_2
  simp only [ws_ife, ws_set, ws_sub, ws_ret_, ws_expr, ws_pass, ws_retn, ws_brk, ws_cnt, x_cmp, x_cmp2, x_ix, x_int, x_bl, x_str, x_non, x_npart, x_bin, x_neg, x_not, x_and, x_or, x_ife, x_lst, x_tup, x_call, x_bi, x_thaw, x_glob, ws_nilE, ws_consE, y_var, List.getElem?_cons_zero, List.getElem?_cons_succ, Option.some.injEq, exists_eq_left', List.set_cons_zero, List.set_cons_succ, c_gt, c_lt, c_le, c_ge, c_eq, c_ne, t_bl, t_int, n_add, n_sub, n_mul, n_mod, n_fdiv, n_pow, n_neg, ix_lst, ix_tup, decide_eq_true_eq, decide_eq_false_iff_not, bi_abs, ws_raise, ws_cons, ws_nil]
  refine ⟨fun hx => by rw [List.take_length]; exact e2 rfl (by omega), fun hx => ?_⟩
  have h1 : (Det.det (p + 1) A).natAbs = 1 := by omega
  unfold s_undone_3
  simp only [ws_ife, ws_set, ws_sub, ws_ret_, ws_expr, ws_pass, ws_retn, ws_brk, ws_cnt, x_cmp, x_cmp2, x_ix, x_int, x_bl, x_str, x_non, x_npart, x_bin, x_neg, x_not, x_and, x_or, x_ife, x_lst, x_tup, x_call, x_bi, x_thaw, x_glob, ws_nilE, ws_consE, y_var, List.getElem?_cons_zero, List.getElem?_cons_succ, Option.some.injEq, exists_eq_left', List.set_cons_zero, List.set_cons_succ, c_gt, c_lt, c_le, c_ge, c_eq, c_ne, t_bl, t_int, n_add, n_sub, n_mul, n_mod, n_fdiv, n_pow, n_neg, ix_lst, ix_tup, decide_eq_true_eq, decide_eq_false_iff_not, List.length_nil, Prod.mk.injEq, VM.D.lst.injEq]
  refine ⟨by decide, [], 0, ⟨rfl, rfl⟩, ?_⟩
  unfold s_undone_4
  refine ws_forRange ?_
  have tx : ∀ {μ' : Sto} {n' c : Nat} {q : Nat → Nat} {R : Det.Mx}, Mt μ μ' n' (p + 1) c q R → TA μ' d (p + 1) (p + 1) A := fun hT => t.ext fun k c hk => by rw [hT.fr k (List.getElem?_eq_some_iff.mp hk).1]; exact hk
  have T0 : Mt μ (μ ++ [.lst []]) 0 (p + 1) μ.length (fun _ => 0) (inv p A) := Mt.new
  simp only [ws_ife, ws_set, ws_sub, ws_ret_, ws_expr, ws_pass, ws_retn, ws_brk, ws_cnt, x_cmp, x_cmp2, x_ix, x_int, x_bl, x_str, x_non, x_npart, x_bin, x_neg, x_not, x_and, x_or, x_ife, x_lst, x_tup, x_call, x_bi, x_thaw, x_glob, ws_nilE, ws_consE, y_var, List.getElem?_cons_zero, List.getElem?_cons_succ, Option.some.injEq, exists_eq_left', List.set_cons_zero, List.set_cons_succ, c_gt, c_lt, c_le, c_ge, c_eq, c_ne, t_bl, t_int, n_add, n_sub, n_mul, n_mod, n_fdiv, n_pow, n_neg, ix_lst, ix_tup, decide_eq_true_eq, decide_eq_false_iff_not, i_r1, (tx T0).blen, VM.D.int.injEq]
  refine ⟨small_of (by omega) (by omega), 0, _, fun i ρ' μ' => ∃ o3 q R, ρ' = evU d (Det.det (p + 1) A) μ.length o3 none ∧ Mt μ μ' i (p + 1) μ.length q R ∧ ∀ a x, a < i → x < p + 1 → R a x = inv p A a x, rfl, ⟨none, _, _, rfl, T0, fun a x ha => by omega⟩, fun i ρ' μ' hi hI => ?_, fun ρ' μ' hI => ?_⟩
  · obtain ⟨o3, q, R, rfl, hT, hR⟩ := hI
    have hi : i < p + 1 := by omega
    rw [show (0 : Int) + (i : Nat) = ((i : Nat) : Int) by omega]
    simp only [ws_cons, ws_nil, evU, ws_ife, ws_set, ws_sub, ws_ret_, ws_expr, ws_pass, ws_retn, ws_brk, ws_cnt, x_cmp, x_cmp2, x_ix, x_int, x_bl, x_str, x_non, x_npart, x_bin, x_neg, x_not, x_and, x_or, x_ife, x_lst, x_tup, x_call, x_bi, x_thaw, x_glob, ws_nilE, ws_consE, y_var, List.getElem?_cons_zero, List.getElem?_cons_succ, Option.some.injEq, exists_eq_left', List.set_cons_zero, List.set_cons_succ, c_gt, c_lt, c_le, c_ge, c_eq, c_ne, t_bl, t_int, n_add, n_sub, n_mul, n_mod, n_fdiv, n_pow, n_neg, ix_lst, ix_tup, decide_eq_true_eq, decide_eq_false_iff_not, x_bm, items_cell hT.top, x_lc, i_r1, (tx hT).blen, VM.D.int.injEq]
    refine ⟨small_of (by omega) (by omega), ?_⟩
    rw [Int.toNat_natCast, range_gen]
    refine wp_lcGen (n := p + 1) (h := fun j => .int (inv p A i j)) (fun j => rfl) rfl (size_small (by omega)) (fun j hj => ?_) ?_
    · simp only [ws_ife, ws_set, ws_sub, ws_ret_, ws_expr, ws_pass, ws_retn, ws_brk, ws_cnt, x_cmp, x_cmp2, x_ix, x_int, x_bl, x_str, x_non, x_npart, x_bin, x_neg, x_not, x_and, x_or, x_ife, x_lst, x_tup, x_call, x_bi, x_thaw, x_glob, ws_nilE, ws_consE, y_var, List.getElem?_cons_zero, List.getElem?_cons_succ, Option.some.injEq, exists_eq_left', List.set_cons_zero, List.set_cons_succ, c_gt, c_lt, c_le, c_ge, c_eq, c_ne, t_bl, t_int, n_add, n_sub, n_mul, n_mod, n_fdiv, n_pow, n_neg, ix_lst, ix_tup, decide_eq_true_eq, decide_eq_false_iff_not, lc_name, wipe1, Bool.true_eq_false, false_implies, and_true, true_implies]
      rw [show (0 : Int) + (j : Nat) = ((j : Nat) : Int) by omega]
      refine side_worth (B := B) h.side h.worth h.less (tx hT) hj hi (by omega) hA hB' ?_
      simp only [ws_ife, ws_set, ws_sub, ws_ret_, ws_expr, ws_pass, ws_retn, ws_brk, ws_cnt, x_cmp, x_cmp2, x_ix, x_int, x_bl, x_str, x_non, x_npart, x_bin, x_neg, x_not, x_and, x_or, x_ife, x_lst, x_tup, x_call, x_bi, x_thaw, x_glob, ws_nilE, ws_consE, y_var, List.getElem?_cons_zero, List.getElem?_cons_succ, Option.some.injEq, exists_eq_left', List.set_cons_zero, List.set_cons_succ, c_gt, c_lt, c_le, c_ge, c_eq, c_ne, t_bl, t_int, n_add, n_sub, n_mul, n_mod, n_fdiv, n_pow, n_neg, ix_lst, ix_tup, decide_eq_true_eq, decide_eq_false_iff_not]
      have l1 : (Det.det (p + 1) A).natAbs.log2 ≤ 1 := by rw [h1]; decide
      have l2 : (Det.sg (j + i) * Det.det p (Det.mnr j i A)).natAbs.log2 ≤ p * (B + p) + 1 := lge (by
        rw [Int.natAbs_mul, Det.sg_abs, Nat.one_mul]
        exact Det.det_le fun a x ha hx => hA _ _ (Det.sk_le ha) (Det.sk_le hx))
      exact ⟨by omega, trivial, rfl⟩
    · refine ⟨_, 0, rfl, ?_⟩
      have g : (μ' ++ [C.lst (rowL (p + 1) (inv p A i))])[μ.length]? = some (.lst (genL i fun a => .cell (q a))) := by
        rw [List.getElem?_append_left (List.getElem?_eq_some_iff.mp hT.top).1]; exact hT.top
      rw [append_at g (by rw [genL_len]; exact szr (by omega)) (put_own (Nat.le_refl _))]
      refine ⟨_, _, _, rfl, hT.push (f := inv p A i), fun a x ha hx => ?_⟩
      by_cases e : a < i
      · rw [if_pos e]; exact hR a x e hx
      · rw [if_neg e]; rw [show a = i by omega]
  · obtain ⟨o3, q', R, rfl, hT, hR⟩ := hI
    rw [show ((p + 1 : Nat) : Int).toNat = p + 1 by omega] at hT hR
    unfold s_undone_5
    simp only [ws_cons, ws_nil, evU, ws_ife, ws_set, ws_sub, ws_ret_, ws_expr, ws_pass, ws_retn, ws_brk, ws_cnt, x_cmp, x_cmp2, x_ix, x_int, x_bl, x_str, x_non, x_npart, x_bin, x_neg, x_not, x_and, x_or, x_ife, x_lst, x_tup, x_call, x_bi, x_thaw, x_glob, ws_nilE, ws_consE, y_var, List.getElem?_cons_zero, List.getElem?_cons_succ, Option.some.injEq, exists_eq_left', List.set_cons_zero, List.set_cons_succ, c_gt, c_lt, c_le, c_ge, c_eq, c_ne, t_bl, t_int, n_add, n_sub, n_mul, n_mod, n_fdiv, n_pow, n_neg, ix_lst, ix_tup, decide_eq_true_eq, decide_eq_false_iff_not]
    exact ⟨_, (hT.congr hR).out, by rw [hT.take]; exact q rfl h1⟩
end
end VM

set_option Elab.async false
set_option maxRecDepth 10000
set_option autoImplicit false
set_option linter.unusedVariables false
set_option linter.unusedSimpArgs false
/-! the law's own reckoning: mixes, the unit table -/
namespace VM
open PySem L2
def s__law_mix_0 : VM.S := (.set (.name 2) (.bin .Mult (.lst (.cons (.int 0) .nil)) (.bi "len" (.cons (.ix (.var 1) (.int 0)) .nil))))
def s__law_mix_1 : VM.S := (.for_ (.tup (.cons (.name 3) (.cons (.name 4) .nil))) (.zip (.var 0) (.var 1)) (.cons (.set (.name 2) (.lc (.bin .Add (.var 5) (.bin .Mult (.var 3) (.var 6))) (.tup (.cons (.name 5) (.cons (.name 6) .nil))) (.zip (.var 2) (.var 4)) (.bl true) [5, 6]))
  .nil))
def s__law_mix_2 : VM.S := (.ret (.var 2))
def b__law_mix : Ss := (.cons s__law_mix_0 (.cons s__law_mix_1 (.cons s__law_mix_2 .nil)))
def f__law_mix : Fn := ⟨2, 7, false, b__law_mix⟩
def s__law_unit_0 : VM.S := (.ret (.lc (.lc (.bi "int" (.cons (.cmp .Eq (.var 2) (.var 1)) .nil)) (.name 2) (.rng1 (.var 0)) (.bl true) [2]) (.name 1) (.rng1 (.var 0)) (.bl true) [1]))
def b__law_unit : Ss := (.cons s__law_unit_0 .nil)
def f__law_unit : Fn := ⟨1, 3, false, b__law_unit⟩
section
variable {P : Pg} {μ : Sto} {d : D} {n m k b : Nat} {A : Det.Mx} {B : Nat} {E : Exc → Sto → Prop} {Q : D × Nat → Sto → Prop}
theorem ws_for2 {T : Tb} {ρ : Ev} {i j : Nat} {it : VM.It} {body : Ss} {N Bk Ct : Ev → Sto → Prop} {Rt : D → Nat → Sto → Prop} {X : Exc → Ev → Sto → Prop} (h : Wp (evIt T b it ρ μ) (fun src μ1 => ∃ (n : Nat) (g h : Nat → D) (I : Nat → Ev → Sto → Prop), (∀ k ρ' μ', I k ρ' μ' → src.at μ' k = nxO (genL n fun t => D.tup [g t, h t])[k]?) ∧ src.size μ1 = n ∧ I 0 ρ μ1 ∧
      (∀ k ρ' μ', k < n → I k ρ' μ' → Ws (runSs T b body ((ρ'.set i (some (g k))).set j (some (h k))) μ') (I (k + 1)) Rt N (I (k + 1)) X) ∧ ∀ ρ' μ', I n ρ' μ' → N ρ' μ') (fun x μ => X x ρ μ)) :
    Ws (runS T b (.for_ (.tup (.cons (.name i) (.cons (.name j) .nil))) it body) ρ μ) N Rt Bk Ct X := by
  show Ws ((evIt T b it ρ μ).st ρ fun src μ1 => forLoop (asg T b (.tup (.cons (.name i) (.cons (.name j) .nil)))) (fun ρ μ => runSs T b body ρ μ) src (src.size μ1 + 1) 0 ρ μ1) N Rt Bk Ct X
  rw [ws_st]
  refine wp_mono h (fun src μ1 ⟨n, g, h, I, hsrc, hsz, h0, hs, he⟩ => ?_) fun _ _ h => h
  have key : ∀ (k t : Nat) (ρ' : Ev) (μ' : Sto), t + k = n + 1 → t ≤ n → I t ρ' μ' → Ws (forLoop (asg T b (.tup (.cons (.name i) (.cons (.name j) .nil)))) (fun ρ μ => runSs T b body ρ μ) src k t ρ' μ') N Rt Bk Ct X := by
    intro k
    induction k with
    | zero => intro t ρ' μ' h1 h2 _; omega
    | succ k ih =>
      intro t ρ' μ' h1 h2 hI
      show Ws (match src.at μ' t with
        | .bad => .bad
        | .done => .nx ρ' μ'
        | .item x => match asg T b (.tup (.cons (.name i) (.cons (.name j) .nil))) x ρ' μ' with
          | .nx ρ1 μ1 => match runSs T b body ρ1 μ1 with
            | .nx ρ2 μ2 => forLoop (asg T b (.tup (.cons (.name i) (.cons (.name j) .nil)))) (fun ρ μ => runSs T b body ρ μ) src k (t + 1) ρ2 μ2
            | .ct ρ2 μ2 => forLoop (asg T b (.tup (.cons (.name i) (.cons (.name j) .nil)))) (fun ρ μ => runSs T b body ρ μ) src k (t + 1) ρ2 μ2
            | .brk ρ2 μ2 => .nx ρ2 μ2
            | r => r
          | .err x ρ μ => .err x ρ μ
          | _ => .bad) N Rt Bk Ct X
      rw [hsrc t ρ' μ' hI]
      by_cases hj : t < n
      · rw [genL_get hj]
        have := hs t ρ' μ' hj hI
        show Ws (match runSs T b body ((ρ'.set i (some (g t))).set j (some (h t))) μ' with
            | .nx ρ2 μ2 => forLoop (asg T b (.tup (.cons (.name i) (.cons (.name j) .nil)))) (fun ρ μ => runSs T b body ρ μ) src k (t + 1) ρ2 μ2
            | .ct ρ2 μ2 => forLoop (asg T b (.tup (.cons (.name i) (.cons (.name j) .nil)))) (fun ρ μ => runSs T b body ρ μ) src k (t + 1) ρ2 μ2
            | .brk ρ2 μ2 => .nx ρ2 μ2
            | r => r) N Rt Bk Ct X
        rw [wsS] at this
        revert this
        cases runSs T b body ((ρ'.set i (some (g t))).set j (some (h t))) μ' with
        | nx ρ2 μ2 => intro q; exact ih (t + 1) ρ2 μ2 (by omega) (by omega) q
        | ct ρ2 μ2 => intro q; exact ih (t + 1) ρ2 μ2 (by omega) (by omega) q
        | brk ρ2 μ2 => intro q; exact ws_nx.mpr q
        | ret d f μ2 => intro q; exact ws_ret.mpr q
        | err x ρ2 μ2 => intro q; rw [wsS]; exact q
        | bad => intro q; exact q.elim
      · rw [List.getElem?_eq_none (by rw [genL_len]; omega)]
        have : t = n := by omega
        subst this
        exact ws_nx.mpr (he ρ' μ' hI)
  rw [hsz]
  exact key (n + 1) 0 ρ μ1 (by omega) (by omega) h0
theorem genL_zip {g h : Nat → D} : (genL n g).zipWith (fun x y => D.tup [x, y]) (genL n h) = genL n fun t => D.tup [g t, h t] :=
  genL_ext (by rw [List.length_zipWith, genL_len, genL_len, Nat.min_self]) fun i hi => by rw [List.getElem?_zipWith, genL_get hi, genL_get hi]
theorem zip_at {s1 s2 : Src} {g h : Nat → D} (h1 : ∀ i, s1.at μ i = nxO (genL n g)[i]?) (h2 : ∀ i, s2.at μ i = nxO (genL n h)[i]?) (i : Nat) : (Src.zip s1 s2).at μ i = nxO (genL n fun t => D.tup [g t, h t])[i]? := by
  rw [src_zip (h1 i) (h2 i), genL_zip]
theorem mul_lst {xs : List D} {k : Int} : Wp (binD .Mult (.lst xs) (.int k) μ) Q E ↔ (-(2 ^ 63) ≤ k ∧ k < 2 ^ 63 ∧ xs.length * k.toNat ≤ sizeLine) ∧ Q (.lst (List.replicate k.toNat xs).flatten, 1) μ := by
  show Wp (if -(2 ^ 63) ≤ k ∧ k < 2 ^ 63 ∧ xs.length * k.toNat ≤ sizeLine then .ok (.lst (List.replicate k.toNat xs).flatten, 1) μ else .bad) Q E ↔ _
  simp only [wp_if, wp_ok, wp_bad, and_if]
theorem repl_row {x : Int} : ∀ j : Nat, (List.replicate j [D.int x]).flatten = rowL j fun _ => x := by
  intro j
  induction j with
  | zero => rfl
  | succ j ih => rw [List.replicate_succ', List.flatten_append, ih]; exact genL_snoc (g := fun _ => D.int x)
theorem mul_zero {x : Int} {j : Nat} (hj : j ≤ 1000) (h : Q (.lst (rowL j fun _ => x), 1) μ) : Wp (binD .Mult (.lst [.int x]) (.int (j : Nat)) μ) Q E := by
  rw [mul_lst, Int.toNat_natCast, repl_row]
  exact ⟨⟨by omega, by omega, by rw [List.length_singleton, Nat.one_mul]; exact size_small hj⟩, h⟩
theorem row_map {m : Nat} {f : Nat → Int} : ((List.range m).map f).map D.int = rowL m f := by
  show _ = genL m _
  unfold genL; rw [List.map_map]; rfl
theorem f_rowL {N f : Nat} {ν : Sto} {m : Nat} {g : Nat → Int} : frzTop N (.lst (rowL m g)) f ν = some (.lst (rowL m g), f) := by
  have := f_row (n := N) (f := f) (μ := ν) (r := (List.range m).map g)
  rw [show rowD ((List.range m).map g) = .lst (rowL m g) from congrArg D.lst row_map] at this
  exact this
/-- rows' mix -/
def mixN (n : Nat) (x : Nat → Int) (A : Det.Mx) (j : Nat) : Int := Det.sumN n fun i => x i * A i j
theorem mix_le {n X B : Nat} {x : Nat → Int} {A : Det.Mx} {j : Nat} (hx : ∀ i, i < n → (x i).natAbs ≤ 2 ^ X) (hA : ∀ i, i < n → (A i j).natAbs ≤ 2 ^ B) : (mixN n x A j).natAbs ≤ 2 ^ (n + X + B) := by
  refine Nat.le_trans (Det.sum_le (M := 2 ^ X * 2 ^ B) fun i hi => by rw [Int.natAbs_mul]; exact Nat.mul_le_mul (hx i hi) (hA i hi)) ?_
  rw [Nat.pow_add, Nat.pow_add, Nat.mul_assoc]
  exact Nat.mul_le_mul_right _ (Nat.le_of_lt Nat.lt_two_pow_self)
abbrev evM (d1 d2 d3 : D) (o3 o4 : Option D) : Ev := [some d1, some d2, some d3, o3, o4, none, none]
theorem law_mix (hp : P.fns "_law_mix" = some f__law_mix) {e : D} {x : Nat → Int} {X : Nat} (hx : itemsL μ d = some (rowL n x)) (t : TA μ e n m A) (hn1 : 1 ≤ n) (hn : n ≤ 900) (hm : m ≤ 900) (hX : ∀ i, i < n → (x i).natAbs ≤ 2 ^ X) (hA : ∀ i j, i < n → j < m → (A i j).natAbs ≤ 2 ^ B) (hB : X + B < 120000000)
    (q : Q (.lst (rowL m (mixN n x A)), 0) μ) : Wp ((tb P (k + 1)).call "_law_mix" b [d, e] μ) Q E := by
  refine (wp_call hp).mpr ((wp_run (by rfl)).mpr ?_)
  unfold b__law_mix s__law_mix_0
  obtain ⟨y, h1, h2⟩ := t.row (i := 0) (by decide) (by omega)
  obtain ⟨ds, g1, g2, g3⟩ := t
  have e1 : ds = genL n fun a => ds.getD a .non := genL_ext g2 fun a ha => by
    rw [List.getD_eq_getElem?_getD, List.getElem?_eq_getElem (by omega)]; rfl
  have hd : ∀ a, a < n → itemsL μ (ds.getD a .non) = some (rowL m (A a)) := fun a ha => by
    obtain ⟨e, w1, w2⟩ := g3 a ha
    rw [List.getD_eq_getElem?_getD, w1]; exact w2
  rw [ws_cons]
  simp only [List.map_cons, List.map_nil, List.replicate, List.cons_append, List.nil_append, ws_ife, ws_set, ws_sub, ws_ret_, ws_expr, ws_pass, ws_retn, ws_brk, ws_cnt, x_cmp, x_cmp2, x_ix, x_int, x_bl, x_str, x_non, x_npart, x_bin, x_neg, x_not, x_and, x_or, x_ife, x_lst, x_tup, x_call, x_bi, x_thaw, x_glob, ws_nilE, ws_consE, y_var, List.getElem?_cons_zero, List.getElem?_cons_succ, Option.some.injEq, exists_eq_left', List.set_cons_zero, List.set_cons_succ, c_gt, c_lt, c_le, c_ge, c_eq, c_ne, t_bl, t_int, n_add, n_sub, n_mul, n_mod, n_fdiv, n_pow, n_neg, ix_lst, ix_tup, decide_eq_true_eq, decide_eq_false_iff_not, h1, bi_len h2, genL_len, List.length_cons, List.length_nil]
  refine ⟨by decide, ?_⟩
  refine mul_zero (by omega) ?_
  rw [ws_cons]
  unfold s__law_mix_1
  obtain ⟨s1, a1, a2, a3⟩ := src_of hx
  obtain ⟨s2, c1, c2, c3⟩ := src_of g1
  refine ws_for2 ?_
  simp only [ws_ife, ws_set, ws_sub, ws_ret_, ws_expr, ws_pass, ws_retn, ws_brk, ws_cnt, x_cmp, x_cmp2, x_ix, x_int, x_bl, x_str, x_non, x_npart, x_bin, x_neg, x_not, x_and, x_or, x_ife, x_lst, x_tup, x_call, x_bi, x_thaw, x_glob, ws_nilE, ws_consE, y_var, List.getElem?_cons_zero, List.getElem?_cons_succ, Option.some.injEq, exists_eq_left', List.set_cons_zero, List.set_cons_succ, c_gt, c_lt, c_le, c_ge, c_eq, c_ne, t_bl, t_int, n_add, n_sub, n_mul, n_mod, n_fdiv, n_pow, n_neg, ix_lst, ix_tup, decide_eq_true_eq, decide_eq_false_iff_not, i_zp, a1, c1]
  refine ⟨n, fun i => .int (x i), fun a => ds.getD a .non, fun t ρ' μ' => ∃ o3 o4, ρ' = evM d e (.lst (rowL m (mixN t x A))) o3 o4 ∧ μ' = μ, fun t ρ' μ' hI => ?_, ?_, ⟨none, none, rfl, rfl⟩, fun t ρ' μ' ht hI => ?_, fun ρ' μ' hI => ?_⟩
  · obtain ⟨_, _, _, rfl⟩ := hI
    exact zip_at a2 (fun i => by rw [← e1]; exact c2 i) t
  · show min (s1.size μ) (s2.size μ) = n
    rw [a3, c3, genL_len, g2, Nat.min_self]
  · obtain ⟨o3, o4, rfl, rfl⟩ := hI
    obtain ⟨s3, z1, z2, z3⟩ := src_of (hd t ht)
    have z0 : srcL μ' (.lst (rowL m (mixN t x A))) = some (.data (rowL m (mixN t x A))) := rfl
    simp only [ws_cons, ws_nil, evM, ws_ife, ws_set, ws_sub, ws_ret_, ws_expr, ws_pass, ws_retn, ws_brk, ws_cnt, x_cmp, x_cmp2, x_ix, x_int, x_bl, x_str, x_non, x_npart, x_bin, x_neg, x_not, x_and, x_or, x_ife, x_lst, x_tup, x_call, x_bi, x_thaw, x_glob, ws_nilE, ws_consE, y_var, List.getElem?_cons_zero, List.getElem?_cons_succ, Option.some.injEq, exists_eq_left', List.set_cons_zero, List.set_cons_succ, c_gt, c_lt, c_le, c_ge, c_eq, c_ne, t_bl, t_int, n_add, n_sub, n_mul, n_mod, n_fdiv, n_pow, n_neg, ix_lst, ix_tup, decide_eq_true_eq, decide_eq_false_iff_not, x_lc, i_zp, z0, z1]
    refine wp_lcGen (n := m) (g := fun j => D.tup [.int (mixN t x A j), .int (A t j)]) (h := fun j => .int (mixN (t + 1) x A j)) (fun i => zip_at (fun i => src_data i) z2 i) ?_ (size_small (by omega)) (fun j hj => ?_) ⟨_, _, rfl, rfl⟩
    · show min ((Src.data (rowL m (mixN t x A))).size μ') (s3.size μ') = _
      rw [z3]; show min (rowL m (mixN t x A)).length _ = _
      rw [genL_len, genL_len, genL_len, Nat.min_self]
    · simp only [ws_ife, ws_set, ws_sub, ws_ret_, ws_expr, ws_pass, ws_retn, ws_brk, ws_cnt, x_cmp, x_cmp2, x_ix, x_int, x_bl, x_str, x_non, x_npart, x_bin, x_neg, x_not, x_and, x_or, x_ife, x_lst, x_tup, x_call, x_bi, x_thaw, x_glob, ws_nilE, ws_consE, y_var, List.getElem?_cons_zero, List.getElem?_cons_succ, Option.some.injEq, exists_eq_left', List.set_cons_zero, List.set_cons_succ, c_gt, c_lt, c_le, c_ge, c_eq, c_ne, t_bl, t_int, n_add, n_sub, n_mul, n_mod, n_fdiv, n_pow, n_neg, ix_lst, ix_tup, decide_eq_true_eq, decide_eq_false_iff_not, lc_two, wipe2, Bool.true_eq_false, false_implies, and_true, true_implies]
      have l1 := lge (hX t ht)
      have l2 := lge (hA t j ht hj)
      exact ⟨by omega, trivial, rfl⟩
  · obtain ⟨o3, o4, rfl, rfl⟩ := hI
    unfold s__law_mix_2
    simp only [ws_cons, ws_nil, evM, ws_ife, ws_set, ws_sub, ws_ret_, ws_expr, ws_pass, ws_retn, ws_brk, ws_cnt, x_cmp, x_cmp2, x_ix, x_int, x_bl, x_str, x_non, x_npart, x_bin, x_neg, x_not, x_and, x_or, x_ife, x_lst, x_tup, x_call, x_bi, x_thaw, x_glob, ws_nilE, ws_consE, y_var, List.getElem?_cons_zero, List.getElem?_cons_succ, Option.some.injEq, exists_eq_left', List.set_cons_zero, List.set_cons_succ, c_gt, c_lt, c_le, c_ge, c_eq, c_ne, t_bl, t_int, n_add, n_sub, n_mul, n_mod, n_fdiv, n_pow, n_neg, ix_lst, ix_tup, decide_eq_true_eq, decide_eq_false_iff_not, List.take_length]
    exact ⟨_, f_rowL, q⟩
/-- the unit table, reckoned by the law -/
theorem law_unit (hp : P.fns "_law_unit" = some f__law_unit) (hn : n ≤ 900) (q : Q (tabD n n Det.one, 1) μ) : Wp ((tb P (k + 1)).call "_law_unit" b [.int (n : Nat)] μ) Q E := by
  refine (wp_call hp).mpr ((wp_run (by rfl)).mpr ?_)
  unfold b__law_unit s__law_unit_0
  simp only [List.map_cons, List.map_nil, List.replicate, List.cons_append, List.nil_append, ws_cons, ws_nil, ws_ife, ws_set, ws_sub, ws_ret_, ws_expr, ws_pass, ws_retn, ws_brk, ws_cnt, x_cmp, x_cmp2, x_ix, x_int, x_bl, x_str, x_non, x_npart, x_bin, x_neg, x_not, x_and, x_or, x_ife, x_lst, x_tup, x_call, x_bi, x_thaw, x_glob, ws_nilE, ws_consE, y_var, List.getElem?_cons_zero, List.getElem?_cons_succ, Option.some.injEq, exists_eq_left', List.set_cons_zero, List.set_cons_succ, c_gt, c_lt, c_le, c_ge, c_eq, c_ne, t_bl, t_int, n_add, n_sub, n_mul, n_mod, n_fdiv, n_pow, n_neg, ix_lst, ix_tup, decide_eq_true_eq, decide_eq_false_iff_not, x_lc, i_r1, VM.D.int.injEq]
  refine ⟨small_of (by omega) (by omega), ?_⟩
  rw [Int.toNat_natCast, range_gen]
  refine wp_lcGen (n := n) (h := fun i => .lst (rowL n (Det.one i))) (fun i => src_data i) rfl (size_small (by omega)) (fun i hi => ?_) ⟨_, f_tab, by rw [List.take_length]; exact q⟩
  simp only [ws_ife, ws_set, ws_sub, ws_ret_, ws_expr, ws_pass, ws_retn, ws_brk, ws_cnt, x_cmp, x_cmp2, x_ix, x_int, x_bl, x_str, x_non, x_npart, x_bin, x_neg, x_not, x_and, x_or, x_ife, x_lst, x_tup, x_call, x_bi, x_thaw, x_glob, ws_nilE, ws_consE, y_var, List.getElem?_cons_zero, List.getElem?_cons_succ, Option.some.injEq, exists_eq_left', List.set_cons_zero, List.set_cons_succ, c_gt, c_lt, c_le, c_ge, c_eq, c_ne, t_bl, t_int, n_add, n_sub, n_mul, n_mod, n_fdiv, n_pow, n_neg, ix_lst, ix_tup, decide_eq_true_eq, decide_eq_false_iff_not, lc_name, wipe1, Bool.true_eq_false, false_implies, and_true, true_implies, x_lc, i_r1, VM.D.int.injEq]
  refine ⟨small_of (by omega) (by omega), ?_⟩
  rw [Int.toNat_natCast, range_gen]
  refine wp_lcGen (n := n) (h := fun j => .int (Det.one i j)) (fun i => src_data i) rfl (size_small (by omega)) (fun j hj => ?_) ⟨rfl, rfl⟩
  simp only [ws_ife, ws_set, ws_sub, ws_ret_, ws_expr, ws_pass, ws_retn, ws_brk, ws_cnt, x_cmp, x_cmp2, x_ix, x_int, x_bl, x_str, x_non, x_npart, x_bin, x_neg, x_not, x_and, x_or, x_ife, x_lst, x_tup, x_call, x_bi, x_thaw, x_glob, ws_nilE, ws_consE, y_var, List.getElem?_cons_zero, List.getElem?_cons_succ, Option.some.injEq, exists_eq_left', List.set_cons_zero, List.set_cons_succ, c_gt, c_lt, c_le, c_ge, c_eq, c_ne, t_bl, t_int, n_add, n_sub, n_mul, n_mod, n_fdiv, n_pow, n_neg, ix_lst, ix_tup, decide_eq_true_eq, decide_eq_false_iff_not, lc_name, wipe1, Bool.true_eq_false, false_implies, and_true, true_implies, bi_int_bl]
  refine ⟨trivial, ?_⟩
  refine congrArg D.int ?_
  unfold Det.one
  by_cases e : i = j
  · rw [if_pos e, if_pos (by simp [e])]
  · rw [if_neg e, if_neg (by simp; omega)]
end
end VM

set_option Elab.async false
set_option maxRecDepth 10000
set_option autoImplicit false
set_option linter.unusedVariables false
set_option linter.unusedSimpArgs false
/-! the law's own worth -/
namespace VM
open PySem L2
def s__law_worth_0 : VM.S := (.ife (.cmp .Eq (.bi "len" (.cons (.var 0) .nil)) (.int 1)) (.cons (.ret (.ix (.ix (.var 0) (.int 0)) (.int 0)))
  .nil) .nil)
def s__law_worth_1 : VM.S := (.set (.name 1) (.int 0))
def s__law_worth_2 : VM.S := (.for_ (.name 2) (.rng1 (.bi "len" (.cons (.var 0) .nil))) (.cons (.ife (.cmp .NotEq (.ix (.ix (.var 0) (.int 0)) (.var 2)) (.int 0)) (.cons (.set (.name 3) (.lc (.bin .Add (.slc (.var 4) .npart (.var 2)) (.slc (.var 4) (.bin .Add (.var 2) (.int 1)) .npart)) (.name 4) (.ex (.slc (.var 0) (.int 1) .npart)) (.bl true) [4]))
  (.cons (.set (.name 1) (.bin .Add (.var 1) (.bin .Mult (.bin .Mult (.ix (.lst (.cons (.int 1) (.cons (.neg (.int 1)) .nil))) (.bin .Mod (.var 2) (.int 2))) (.ix (.ix (.var 0) (.int 0)) (.var 2))) (.call "_law_worth" (.cons (.var 3) .nil)))))
  .nil)) .nil)
  .nil))
def s__law_worth_3 : VM.S := (.ret (.var 1))
def b__law_worth : Ss := (.cons s__law_worth_0 (.cons s__law_worth_1 (.cons s__law_worth_2 (.cons s__law_worth_3 .nil))))
def f__law_worth : Fn := ⟨1, 5, false, b__law_worth⟩
section
variable {P : Pg} {μ : Sto} {d : D} {n m k b : Nat} {A : Det.Mx} {B : Nat} {E : Exc → Sto → Prop} {Q : D × Nat → Sto → Prop}
/-- row[:j] + row[j + 1:] -/
theorem skip_row {j : Nat} {f : Nat → Int} (hj : j < m + 1) : rowL j f ++ (rowL (m - j) fun x => f (j + 1 + x)) = rowL m fun x => f (Det.sk j x) := by
  rw [genL_app, show j + (m - j) = m by omega]
  refine genL_congr fun x hx => ?_
  dsimp only
  by_cases h : x < j
  · rw [if_pos h, Det.sk_lt h]
  · rw [if_neg h, Det.sk_ge (by omega), show j + 1 + (x - j) = x + 1 by omega]
theorem cut_row0 {j : Nat} {f : Nat → Int} (hj : j < m + 1) : cutD (rowL (m + 1) f) none (some (j : Int)) = rowL j f := by rw [cut_head (by omega) (by omega)]; rfl
theorem cut_row1 {j : Nat} {f : Nat → Int} (hj : j < m + 1) : cutD (rowL (m + 1) f) (some ((j : Int) + 1)) none = rowL (m - j) fun x => f (j + 1 + x) := by
  rw [cut_tail (by omega), show ((j : Int) + 1).toNat = j + 1 by omega, show m + 1 - (j + 1) = m - j by omega]
theorem two_sg {j : Nat} : L2.atI [D.int 1, D.int (-1)] ((j : Int).fmod 2) = some (.int (Det.sg j)) := by
  rw [show ((j : Int).fmod 2) = ((j % 2 : Nat) : Int) from fmod_nat (by decide)]
  unfold Det.sg
  have h : j % 2 = 0 ∨ j % 2 = 1 := by omega
  rcases h with h | h <;> rw [h] <;> rfl
abbrev evL (d : D) (f : Int) (o2 o3 : Option D) : Ev := [some d, some (.int f), o2, o3, none]
theorem law_worth (hp : P.fns "_law_worth" = some f__law_worth) : ∀ {n k b : Nat} {μ : Sto} {d : D} {A : Det.Mx} {E : Exc → Sto → Prop} {Q : D × Nat → Sto → Prop}, TA μ d n n A → 1 ≤ n → n ≤ 400 → (∀ i j, i < n → j < n → (A i j).natAbs ≤ 2 ^ B) → n * (B + n) < 60000000 → Q (.int (Det.det n A), 0) μ → Wp ((tb P (k + n)).call "_law_worth" b [d] μ) Q E
  | 0, k, b, μ, d, A, E, Q, t, h1, hn, hA, hB, q => by omega
  | p + 1, k, b, μ, d, A, E, Q, t, h1, hn, hA, hB, q => by
    refine (wp_call hp).mpr ((wp_run (by rfl)).mpr ?_)
    unfold b__law_worth s__law_worth_0
    obtain ⟨y, r1, r2⟩ := t.row (i := 0) (by decide) (by omega)
    have r0 : ∀ j : Nat, j < p + 1 → ixD y (.int (j : Nat)) μ = some (.int (A 0 j)) := fun j hj => by
      rw [ix_of r2, genL_atI (by omega) (by omega)]; rfl
    have r00 := r0 0 (by omega)
    rw [ws_cons]
    simp only [List.map_cons, List.map_nil, List.replicate, List.cons_append, List.nil_append, ws_ife, ws_set, ws_sub, ws_ret_, ws_expr, ws_pass, ws_retn, ws_brk, ws_cnt, x_cmp, x_cmp2, x_ix, x_int, x_bl, x_str, x_non, x_npart, x_bin, x_neg, x_not, x_and, x_or, x_ife, x_lst, x_tup, x_call, x_bi, x_thaw, x_glob, ws_nilE, ws_consE, y_var, List.getElem?_cons_zero, List.getElem?_cons_succ, Option.some.injEq, exists_eq_left', List.set_cons_zero, List.set_cons_succ, c_gt, c_lt, c_le, c_ge, c_eq, c_ne, t_bl, t_int, n_add, n_sub, n_mul, n_mod, n_fdiv, n_pow, n_neg, ix_lst, ix_tup, decide_eq_true_eq, decide_eq_false_iff_not, t.blen]
    refine ⟨fun h => ?_, fun h => ?_⟩
    · have : p = 0 := by omega
      subst this
      simp only [ws_cons, ws_nil, ws_ife, ws_set, ws_sub, ws_ret_, ws_expr, ws_pass, ws_retn, ws_brk, ws_cnt, x_cmp, x_cmp2, x_ix, x_int, x_bl, x_str, x_non, x_npart, x_bin, x_neg, x_not, x_and, x_or, x_ife, x_lst, x_tup, x_call, x_bi, x_thaw, x_glob, ws_nilE, ws_consE, y_var, List.getElem?_cons_zero, List.getElem?_cons_succ, Option.some.injEq, exists_eq_left', List.set_cons_zero, List.set_cons_succ, c_gt, c_lt, c_le, c_ge, c_eq, c_ne, t_bl, t_int, n_add, n_sub, n_mul, n_mod, n_fdiv, n_pow, n_neg, ix_lst, ix_tup, decide_eq_true_eq, decide_eq_false_iff_not, r1, show ixD y (.int 0) μ = some (.int (A 0 0)) from r00, f_int, List.take_length]
      have e : Det.det (0 + 1) A = A 0 0 := by show (0 : Int) + 1 * (A 0 0 * 1) = _; omega
      rw [e] at q; exact q
    · obtain ⟨n, rfl⟩ : ∃ n, p = n + 1 := ⟨p - 1, by omega⟩
      rw [ws_nil, ws_cons]
      unfold s__law_worth_1
      simp only [ws_ife, ws_set, ws_sub, ws_ret_, ws_expr, ws_pass, ws_retn, ws_brk, ws_cnt, x_cmp, x_cmp2, x_ix, x_int, x_bl, x_str, x_non, x_npart, x_bin, x_neg, x_not, x_and, x_or, x_ife, x_lst, x_tup, x_call, x_bi, x_thaw, x_glob, ws_nilE, ws_consE, y_var, List.getElem?_cons_zero, List.getElem?_cons_succ, Option.some.injEq, exists_eq_left', List.set_cons_zero, List.set_cons_succ, c_gt, c_lt, c_le, c_ge, c_eq, c_ne, t_bl, t_int, n_add, n_sub, n_mul, n_mod, n_fdiv, n_pow, n_neg, ix_lst, ix_tup, decide_eq_true_eq, decide_eq_false_iff_not]
      rw [ws_cons]
      unfold s__law_worth_2
      refine ws_forRange ?_
      simp only [ws_ife, ws_set, ws_sub, ws_ret_, ws_expr, ws_pass, ws_retn, ws_brk, ws_cnt, x_cmp, x_cmp2, x_ix, x_int, x_bl, x_str, x_non, x_npart, x_bin, x_neg, x_not, x_and, x_or, x_ife, x_lst, x_tup, x_call, x_bi, x_thaw, x_glob, ws_nilE, ws_consE, y_var, List.getElem?_cons_zero, List.getElem?_cons_succ, Option.some.injEq, exists_eq_left', List.set_cons_zero, List.set_cons_succ, c_gt, c_lt, c_le, c_ge, c_eq, c_ne, t_bl, t_int, n_add, n_sub, n_mul, n_mod, n_fdiv, n_pow, n_neg, ix_lst, ix_tup, decide_eq_true_eq, decide_eq_false_iff_not, i_r1, t.blen, VM.D.int.injEq]
      have hB' : (n + 1) * (B + (n + 1)) < 60000000 := Nat.lt_of_le_of_lt (Nat.mul_le_mul (Nat.le_succ _) (Nat.add_le_add_left (Nat.le_succ _) B)) hB
      refine ⟨small_of (by omega) (by omega), 0, _, fun j ρ' μ' => μ' = μ ∧ ∃ o2 o3, ρ' = evL d (Det.sumN j fun j => Det.sg j * (A 0 j * Det.det (n + 1) (Det.mnr 0 j A))) o2 o3, rfl, ⟨rfl, none, none, rfl⟩, fun j ρ' μ' hj hI => ?_, fun ρ' μ' hI => ?_⟩
      · obtain ⟨rfl, o2, o3, rfl⟩ := hI
        have hj : j < n + 2 := by omega
        rw [show (0 : Int) + (j : Nat) = ((j : Nat) : Int) by omega]
        simp only [ws_cons, ws_nil, evL, ws_ife, ws_set, ws_sub, ws_ret_, ws_expr, ws_pass, ws_retn, ws_brk, ws_cnt, x_cmp, x_cmp2, x_ix, x_int, x_bl, x_str, x_non, x_npart, x_bin, x_neg, x_not, x_and, x_or, x_ife, x_lst, x_tup, x_call, x_bi, x_thaw, x_glob, ws_nilE, ws_consE, y_var, List.getElem?_cons_zero, List.getElem?_cons_succ, Option.some.injEq, exists_eq_left', List.set_cons_zero, List.set_cons_succ, c_gt, c_lt, c_le, c_ge, c_eq, c_ne, t_bl, t_int, n_add, n_sub, n_mul, n_mod, n_fdiv, n_pow, n_neg, ix_lst, ix_tup, decide_eq_true_eq, decide_eq_false_iff_not, r1, r0 j hj]
        refine ⟨fun hz => ?_, fun hz => ?_⟩
        · obtain ⟨ds, g1, g2, g3⟩ := t
          have e1 : ds = genL (n + 2) fun a => ds.getD a .non := genL_ext g2 fun a ha => by
            rw [List.getD_eq_getElem?_getD, List.getElem?_eq_getElem (by omega)]; rfl
          have hd : ∀ a, a < n + 2 → itemsL μ' (ds.getD a .non) = some (rowL (n + 2) (A a)) := fun a ha => by
            obtain ⟨e, w1, w2⟩ := g3 a ha
            rw [List.getD_eq_getElem?_getD, w1]; exact w2
          have c1 : cutD ds (some 1) none = genL (n + 1) fun a => ds.getD (1 + a) .non := by rw [e1, cut_tail (by decide), ← e1]; rfl
          simp only [x_lc, i_exD, x_slc, p_int, p_non, sl_of g1, c1, ws_ife, ws_set, ws_sub, ws_ret_, ws_expr, ws_pass, ws_retn, ws_brk, ws_cnt, x_cmp, x_cmp2, x_ix, x_int, x_bl, x_str, x_non, x_npart, x_bin, x_neg, x_not, x_and, x_or, x_ife, x_lst, x_tup, x_call, x_bi, x_thaw, x_glob, ws_nilE, ws_consE, y_var, List.getElem?_cons_zero, List.getElem?_cons_succ, Option.some.injEq, exists_eq_left', List.set_cons_zero, List.set_cons_succ, c_gt, c_lt, c_le, c_ge, c_eq, c_ne, t_bl, t_int, n_add, n_sub, n_mul, n_mod, n_fdiv, n_pow, n_neg, ix_lst, ix_tup, decide_eq_true_eq, decide_eq_false_iff_not]
          refine ⟨_, rfl, ?_⟩
          refine wp_lcGen (h := fun a => .lst (rowL (n + 1) (Det.mnr 0 j A a))) (fun _ => rfl) rfl (size_small (by omega)) (fun a ha => ?_) ?_
          · have w1 := hd (1 + a) (by omega)
            simp only [ws_ife, ws_set, ws_sub, ws_ret_, ws_expr, ws_pass, ws_retn, ws_brk, ws_cnt, x_cmp, x_cmp2, x_ix, x_int, x_bl, x_str, x_non, x_npart, x_bin, x_neg, x_not, x_and, x_or, x_ife, x_lst, x_tup, x_call, x_bi, x_thaw, x_glob, ws_nilE, ws_consE, y_var, List.getElem?_cons_zero, List.getElem?_cons_succ, Option.some.injEq, exists_eq_left', List.set_cons_zero, List.set_cons_succ, c_gt, c_lt, c_le, c_ge, c_eq, c_ne, t_bl, t_int, n_add, n_sub, n_mul, n_mod, n_fdiv, n_pow, n_neg, ix_lst, ix_tup, decide_eq_true_eq, decide_eq_false_iff_not, lc_name, wipe1, Bool.true_eq_false, false_implies, and_true, true_implies, x_slc, p_int, p_non, sl_of w1, cut_row0 hj, cut_row1 hj]
            rw [add_lst (xs := rowL j (A (1 + a))) (ys := rowL (n + 1 - j) fun x => A (1 + a) (j + 1 + x)) rfl rfl (by rw [genL_len, genL_len]; exact size_small (by omega)), skip_row hj]
            refine ⟨rfl, congrArg D.lst (genL_congr fun x hx => ?_)⟩
            show D.int (A (1 + a) (Det.sk j x)) = D.int (A (Det.sk 0 a) (Det.sk j x))
            rw [Nat.add_comm]; rfl
          · have hA' : ∀ i x, i < n + 1 → x < n + 1 → (Det.mnr 0 j A i x).natAbs ≤ 2 ^ B := fun i x hi hx => hA _ _ (Det.sk_le hi) (Det.sk_le hx)
            simp only [two_sg, List.length_cons, List.length_nil]
            have l1 : (Det.sg j).natAbs.log2 ≤ 1 := by rw [Det.sg_abs]; decide
            have l2 : (A 0 j).natAbs.log2 ≤ B + 1 := lge (hA 0 j (by omega) hj)
            have l3 : (Det.sg j * A 0 j).natAbs.log2 ≤ B + 1 := by rw [Int.natAbs_mul, Det.sg_abs, Nat.one_mul]; exact l2
            have hBn : B ≤ (n + 1) * (B + (n + 1)) := by rw [Nat.succ_mul]; omega
            refine ⟨by decide, by decide, ?_⟩
            simp only [ws_ife, ws_set, ws_sub, ws_ret_, ws_expr, ws_pass, ws_retn, ws_brk, ws_cnt, x_cmp, x_cmp2, x_ix, x_int, x_bl, x_str, x_non, x_npart, x_bin, x_neg, x_not, x_and, x_or, x_ife, x_lst, x_tup, x_call, x_bi, x_thaw, x_glob, ws_nilE, ws_consE, y_var, List.getElem?_cons_zero, List.getElem?_cons_succ, Option.some.injEq, exists_eq_left', List.set_cons_zero, List.set_cons_succ, c_gt, c_lt, c_le, c_ge, c_eq, c_ne, t_bl, t_int, n_add, n_sub, n_mul, n_mod, n_fdiv, n_pow, n_neg, ix_lst, ix_tup, decide_eq_true_eq, decide_eq_false_iff_not, r1, r0 j hj]
            refine ⟨by omega, ?_⟩
            refine law_worth hp TA.of (by omega) (by omega) hA' hB' ?_
            have l4 : (Det.det (n + 1) (Det.mnr 0 j A)).natAbs.log2 ≤ (n + 1) * (B + (n + 1)) + 1 := lge (Det.det_le hA')
            simp only [n_mul, n_add]
            rw [Int.mul_assoc]
            exact ⟨by omega, trivial, _, _, rfl⟩
        · have hz : A 0 j = 0 := Classical.not_not.mp hz
          have e : (Det.sumN (j + 1) fun j => Det.sg j * (A 0 j * Det.det (n + 1) (Det.mnr 0 j A))) = Det.sumN j fun j => Det.sg j * (A 0 j * Det.det (n + 1) (Det.mnr 0 j A)) := by
            show Det.sumN j _ + Det.sg j * (A 0 j * Det.det (n + 1) (Det.mnr 0 j A)) = _
            rw [hz, Int.zero_mul, Int.mul_zero, Int.add_zero]
          rw [e]
          exact ⟨trivial, _, _, rfl⟩
      · obtain ⟨rfl, o2, o3, rfl⟩ := hI
        rw [show (((n + 1 + 1 : Nat) : Int)).toNat = n + 2 by omega]
        unfold s__law_worth_3
        simp only [ws_cons, ws_nil, evL, ws_ife, ws_set, ws_sub, ws_ret_, ws_expr, ws_pass, ws_retn, ws_brk, ws_cnt, x_cmp, x_cmp2, x_ix, x_int, x_bl, x_str, x_non, x_npart, x_bin, x_neg, x_not, x_and, x_or, x_ife, x_lst, x_tup, x_call, x_bi, x_thaw, x_glob, ws_nilE, ws_consE, y_var, List.getElem?_cons_zero, List.getElem?_cons_succ, Option.some.injEq, exists_eq_left', List.set_cons_zero, List.set_cons_succ, c_gt, c_lt, c_le, c_ge, c_eq, c_ne, t_bl, t_int, n_add, n_sub, n_mul, n_mod, n_fdiv, n_pow, n_neg, ix_lst, ix_tup, decide_eq_true_eq, decide_eq_false_iff_not, f_int, List.take_length]
        exact q
end
end VM

set_option Elab.async false
set_option maxRecDepth 10000
set_option autoImplicit false
set_option linter.unusedVariables false
set_option linter.unusedSimpArgs false
/-! what laws do again and again -/
namespace VM
open PySem L2
section
variable {P : Pg} {μ0 μ : Sto} {d : D} {n m c b : Nat} {q : Nat → Nat} {A R : Det.Mx} {E : Exc → Sto → Prop} {Q : D × Nat → Sto → Prop}
theorem sl_scr {ns : List Int} {lo hi : Option Int} : Wp (slD (.scr ns) lo hi μ) Q E ↔ Q (.lst (cutD (ns.map .int) lo hi), 1) μ := wp_ok
theorem ws_set2 {T : Tb} {ρ : Ev} {i j : Nat} {e : VM.E} {Nn Bk Ct : Ev → Sto → Prop} {Rt : D → Nat → Sto → Prop} {X : Exc → Ev → Sto → Prop} (h : Wp (evE T b e ρ μ) (fun d μ1 => ∃ x y, d.1 = .tup [x, y] ∧ Nn ((ρ.set i (some x)).set j (some y)) μ1) (fun x μ => X x ρ μ)) :
    Ws (runS T b (.set (.tup (.cons (.name i) (.cons (.name j) .nil))) e) ρ μ) Nn Rt Bk Ct X := by
  show Ws ((evE T b e ρ μ).st ρ fun d μ1 => onlyNx (asg T b (.tup (.cons (.name i) (.cons (.name j) .nil))) d.1 ρ μ1)) Nn Rt Bk Ct X
  rw [ws_st]
  refine wp_mono h (fun d μ1 ⟨x, y, e, q⟩ => ?_) fun _ _ h => h
  rw [e]
  exact ws_nx.mpr q
theorem ne_bl {k : Bool} : cmpD .NotEq (.bl k) (.bl k) μ = some false := by
  have e : ∀ k : Bool, (if SeqAt.shaped (.bool k) && SeqAt.shaped (.bool k) then some (PyData.eqv (.bool k) (.bool k)) else none) = some true := by decide +kernel
  show ((if SeqAt.shaped (.bool k) && SeqAt.shaped (.bool k) then some (PyData.eqv (.bool k) (.bool k)) else none)).map (fun k => !k) = _
  rw [e]; rfl
theorem eq_str {s t : Str} : cmpD .Eq (.str s) (.str t) μ = some (decide (s = t)) := rfl
theorem ne_str {s t : Str} : cmpD .NotEq (.str s) (.str t) μ = some (!decide (s = t)) := rfl
theorem add_val {xs ys : List D} : Wp (binD .Add (.lst xs) (.lst ys) μ) Q E ↔ xs.length + ys.length ≤ sizeLine ∧ Q (.lst (xs ++ ys), 1) μ := by
  show Wp (if xs.length + ys.length ≤ sizeLine then .ok (.lst (xs ++ ys), 1) μ else .bad) Q E ↔ _
  rw [wp_if, wp_ok, wp_bad]; exact and_if
theorem cut_sub {xs : List D} {lo hi : Option Int} : (cutD xs lo hi).length ≤ xs.length ∧ ∀ d ∈ cutD xs lo hi, d ∈ xs := by
  unfold cutD
  refine ⟨?_, fun d hd => List.mem_of_mem_drop (List.mem_of_mem_take hd)⟩
  rw [List.length_take, List.length_drop]; omega
theorem cut_ints {ns : List Int} {lo hi : Option Int} : ∀ d ∈ cutD (ns.map D.int) lo hi, ∃ z : Int, d = .int z := fun d hd => by
  obtain ⟨z, _, rfl⟩ := List.mem_map.mp (cut_sub.2 d hd)
  exact ⟨z, rfl⟩
theorem isin_of {t m : String} {k : Bool} (ht : tyD μ d = some t) (hk : isaT t m = some k) : Wp (biD "isinstance" [d, .ty m] μ) Q E ↔ Q (.bl k, 0) μ := by
  have e : biD "isinstance" [d, .ty m] μ = .ok (.bl k, 0) μ := by
    show sh ((tyD μ d).bind fun t => (isaT t m).map .bl) μ = _
    rw [ht]
    show sh ((isaT t m).map .bl) μ = _
    rw [hk]; rfl
  rw [e]; exact wp_ok
theorem ty_cell {l : Nat} {xs : List D} (h : μ[l]? = some (.lst xs)) : tyD μ (.cell l) = some "list" := by
  show (match μ[l]? with | some (.lst _) => some "list" | some (.dct _) => some "dict" | _ => none) = _
  rw [h]
theorem isa_ll : isaT "list" "list" = some true := by decide +kernel
/-- drawn rows as a table -/
theorem RowsR.tab {B : Nat} (h : RowsR B n m d) : ∃ A : Det.Mx, d = tabD n m A ∧ ∀ i j, i < n → j < m → (A i j).natAbs < 2 ^ B := by
  obtain ⟨rs, rfl, h1, h2⟩ := h
  refine ⟨fun i j => (rs.getD i []).getD j 0, ?_, fun i j hi hj => ?_⟩
  · show D.lst _ = D.lst _
    refine congrArg D.lst (genL_ext (by rw [List.length_map, h1]) fun i hi => ?_)
    rw [List.getElem?_map, List.getElem?_eq_getElem (by omega)]
    refine congrArg some (congrArg D.lst (genL_ext (by rw [List.length_map, (h2 _ (List.getElem_mem _)).1]) fun j hj => ?_))
    have hl := (h2 rs[i] (List.getElem_mem (by omega))).1
    rw [List.getElem?_map, List.getElem?_eq_getElem (by omega)]
    simp only [List.getD_eq_getElem?_getD, List.getElem?_eq_getElem (show i < rs.length by omega), Option.getD_some, List.getElem?_eq_getElem (show j < rs[i].length by omega), Option.map_some]
  · have hl := h2 rs[i] (List.getElem_mem (by omega))
    simp only [List.getD_eq_getElem?_getD, List.getElem?_eq_getElem (show i < rs.length by omega), Option.getD_some, List.getElem?_eq_getElem (show j < rs[i].length by omega)]
    exact hl.2 _ (List.getElem_mem _)
/-- a table's lists, made cells -/
theorem thawL_row : ∀ (f : Nat) (xs : List D) (μ : Sto), thawL (thawD f 0) xs μ = (xs, μ)
  | f, [], μ => rfl
  | f, x :: xs, μ => by
    have e : thawD f 0 x μ = (x, μ) := by cases f <;> rfl
    show ((thawD f 0 x μ).1 :: (thawL (thawD f 0) xs (thawD f 0 x μ).2).1, (thawL (thawD f 0) xs (thawD f 0 x μ).2).2) = _
    rw [e, thawL_row f xs μ]
theorem thaw1 {f : Nat} {xs : List D} : thawD (f + 1) 1 (.lst xs) μ = (.cell μ.length, μ ++ [.lst xs]) := by
  show (D.cell (thawL (thawD f 0) xs μ).2.length, (thawL (thawD f 0) xs μ).2 ++ [C.lst (thawL (thawD f 0) xs μ).1]) = _
  rw [thawL_row]
theorem thaw2 {f : Nat} (A : Det.Mx) : ∃ μ', thawD (f + 2) 2 (tabD n m A) μ = (.cell (μ.length + n), μ') ∧ Mt μ μ' n m (μ.length + n) (fun a => μ.length + a) A ∧ μ'.length = μ.length + n + 1 := by
  have key : ∀ n : Nat, ∃ μ', thawL (thawD (f + 1) 1) (genL n fun i => D.lst (rowL m (A i))) μ = (genL n fun a => D.cell (μ.length + a), μ') ∧ μ'.length = μ.length + n ∧ (∀ k, k < μ.length → μ'[k]? = μ[k]?) ∧ ∀ a, a < n → μ'[μ.length + a]? = some (.lst (rowL m (A a))) := by
    intro n
    induction n with
    | zero => exact ⟨μ, rfl, rfl, fun _ _ => rfl, fun a ha => by omega⟩
    | succ n ih =>
      obtain ⟨μ', h1, h2, h3, h4⟩ := ih
      have app : ∀ (xs ys : List D) (μ : Sto), thawL (thawD (f + 1) 1) (xs ++ ys) μ = ((thawL (thawD (f + 1) 1) xs μ).1 ++ (thawL (thawD (f + 1) 1) ys (thawL (thawD (f + 1) 1) xs μ).2).1, (thawL (thawD (f + 1) 1) ys (thawL (thawD (f + 1) 1) xs μ).2).2) := by
        intro xs
        induction xs with
        | nil => intro ys μ; rfl
        | cons x xs ih =>
          intro ys μ
          show ((thawD (f + 1) 1 x μ).1 :: (thawL (thawD (f + 1) 1) (xs ++ ys) (thawD (f + 1) 1 x μ).2).1, (thawL (thawD (f + 1) 1) (xs ++ ys) (thawD (f + 1) 1 x μ).2).2) = _
          rw [ih]; rfl
      refine ⟨μ' ++ [.lst (rowL m (A n))], ?_, by simp [h2]; omega, fun k hk => by rw [List.getElem?_append_left (by omega)]; exact h3 k hk, fun a ha => ?_⟩
      · rw [← genL_snoc, app, h1]
        show (_ ++ [(thawD (f + 1) 1 (.lst (rowL m (A n))) μ').1], (thawD (f + 1) 1 (.lst (rowL m (A n))) μ').2) = _
        rw [thaw1, h2]
        exact congrArg (·, _) (genL_snoc (g := fun a => D.cell (μ.length + a)))
      · by_cases e : a < n
        · rw [List.getElem?_append_left (by omega)]; exact h4 a e
        · rw [show a = n by omega, List.getElem?_append_right (by omega), h2, Nat.sub_self]; rfl
  obtain ⟨μ', h1, h2, h3, h4⟩ := key n
  refine ⟨μ' ++ [.lst (genL n fun a => .cell (μ.length + a))], ?_, ?_, by simp [h2]⟩
  · show (D.cell (thawL (thawD (f + 1) 1) _ μ).2.length, (thawL (thawD (f + 1) 1) _ μ).2 ++ [C.lst (thawL (thawD (f + 1) 1) _ μ).1]) = _
    rw [h1]; show (D.cell μ'.length, _) = _
    rw [h2]
  · have := Mt.made h2 h3 h4
    rw [h2] at this; exact this
end
end VM

set_option Elab.async false
set_option maxRecDepth 10000
set_option autoImplicit false
set_option linter.unusedVariables false
set_option linter.unusedSimpArgs false
/-! worth, mixed, product -/
namespace VM
open PySem L2
def s_worth_0 : VM.S := (.expr (.call "need_table" (.cons (.var 0) .nil)))
def s_worth_1 : VM.S := (.ret (.call "worth_in" (.cons (.var 0) .nil)))
def b_worth : Ss := (.cons s_worth_0 (.cons s_worth_1 .nil))
def f_worth : Fn := ⟨1, 1, false, b_worth⟩
def s_mixed_0 : VM.S := (.ret (.lc (.bi "sum" (.cons (.lc (.bin .Mult (.var 3) (.ix (.var 4) (.var 2))) (.tup (.cons (.name 3) (.cons (.name 4) .nil))) (.zip (.var 0) (.var 1)) (.bl true) [3, 4]) .nil)) (.name 2) (.rng1 (.bi "len" (.cons (.ix (.var 1) (.int 0)) .nil))) (.bl true) [2]))
def b_mixed : Ss := (.cons s_mixed_0 .nil)
def f_mixed : Fn := ⟨2, 5, false, b_mixed⟩
def s_product_0 : VM.S := (.ife (.cmp .NotEq (.bi "len" (.cons (.ix (.var 0) (.int 0)) .nil)) (.bi "len" (.cons (.var 1) .nil))) (.cons (.raise_ "NoMatch")
  .nil) .nil)
def s_product_1 : VM.S := (.ret (.lcd 1 (.call "mixed" (.cons (.var 2) (.cons (.var 1) .nil))) (.name 2) (.ex (.var 0)) (.bl true) [2]))
def b_product : Ss := (.cons s_product_0 (.cons s_product_1 .nil))
def f_product : Fn := ⟨2, 3, false, b_product⟩
def s__law_product_0 : VM.S := (.ret (.lc (.call "_law_mix" (.cons (.var 2) (.cons (.var 1) .nil))) (.name 2) (.ex (.var 0)) (.bl true) [2]))
def b__law_product : Ss := (.cons s__law_product_0 .nil)
def f__law_product : Fn := ⟨2, 3, false, b__law_product⟩
section
variable {P : Pg} {μ : Sto} {d e : D} {n m p k b : Nat} {A R : Det.Mx} {B : Nat} {E : Exc → Sto → Prop} {Q : D × Nat → Sto → Prop}
theorem worth (hp : P.fns "worth" = some f_worth) (hn : P.fns "need_table" = some f_need_table) (hw : P.fns "worth_in" = some f_worth_in) (t : TA μ d n m A) (hn1 : 1 ≤ n) (hn9 : n ≤ 900) (hA : ∀ i j, i < n → j < m → (A i j).natAbs ≤ 2 ^ B) (hB : n * (B + n) < 60000000)
    (e1 : n ≠ m → E ⟨"NoMatch", none⟩ μ) (q : n = m → Q (.int (Det.det n A), 0) μ) : Wp ((tb P (k + 2)).call "worth" b [d] μ) Q E := by
  refine (wp_call hp).mpr ((wp_run (by rfl)).mpr ?_)
  unfold b_worth s_worth_0 s_worth_1
  rw [ws_cons]
  simp only [List.map_cons, List.map_nil, List.replicate, List.cons_append, List.nil_append, ws_ife, ws_set, ws_sub, ws_ret_, ws_expr, ws_pass, ws_retn, ws_brk, ws_cnt, x_cmp, x_cmp2, x_ix, x_int, x_bl, x_str, x_non, x_npart, x_bin, x_neg, x_not, x_and, x_or, x_ife, x_lst, x_tup, x_call, x_bi, x_thaw, x_glob, ws_nilE, ws_consE, y_var, List.getElem?_cons_zero, List.getElem?_cons_succ, Option.some.injEq, exists_eq_left', List.set_cons_zero, List.set_cons_succ, c_gt, c_lt, c_le, c_ge, c_eq, c_ne, t_bl, t_int, n_add, n_sub, n_mul, n_mod, n_fdiv, n_pow, n_neg, ix_lst, ix_tup, decide_eq_true_eq, decide_eq_false_iff_not]
  refine need_table hn t hn1 (fun hm => ?_) (fun hm => by rw [List.take_length]; exact e1 hm)
  subst hm
  simp only [ws_cons, ws_nil, ws_ife, ws_set, ws_sub, ws_ret_, ws_expr, ws_pass, ws_retn, ws_brk, ws_cnt, x_cmp, x_cmp2, x_ix, x_int, x_bl, x_str, x_non, x_npart, x_bin, x_neg, x_not, x_and, x_or, x_ife, x_lst, x_tup, x_call, x_bi, x_thaw, x_glob, ws_nilE, ws_consE, y_var, List.getElem?_cons_zero, List.getElem?_cons_succ, Option.some.injEq, exists_eq_left', List.set_cons_zero, List.set_cons_succ, c_gt, c_lt, c_le, c_ge, c_eq, c_ne, t_bl, t_int, n_add, n_sub, n_mul, n_mod, n_fdiv, n_pow, n_neg, ix_lst, ix_tup, decide_eq_true_eq, decide_eq_false_iff_not]
  refine worth_in (B := B) hw t hn1 hn9 hA hB ?_
  simp only [f_int, List.take_length]
  exact ⟨_, rfl, q rfl⟩
theorem sum_row {f : Nat → Int} : ∀ n : Nat, ((List.range n).map f).sum = Det.sumN n f
  | 0 => rfl
  | n + 1 => by
    rw [List.range_succ, List.map_append, List.sum_append, sum_row n]
    show _ + (f n + 0) = _ + f n
    omega
theorem bi_sum {f : Nat → Int} : Wp (biD "sum" [.lst (rowL n f)] μ) Q E ↔ Q (.int (Det.sumN n f), 0) μ := by
  have e : biD "sum" [.lst (rowL n f)] μ = .ok (.int (Det.sumN n f), 0) μ := by
    show sh (((rowL n f).mapM ofI).map fun ks => D.int ks.sum) μ = _
    have : (rowL n f).mapM ofI = some ((List.range n).map f) := by
      have key : ∀ l : List Nat, (l.map fun j => D.int (f j)).mapM ofI = some (l.map f) := by
        intro l
        induction l with
        | nil => simp
        | cons a l ih => rw [List.map_cons, List.mapM_cons, ih]; rfl
      exact key _
    rw [this]
    show R.ok (D.int ((List.range n).map f).sum, 0) μ = _
    rw [sum_row]
  rw [e]; exact wp_ok
theorem TA.gen (t : TA μ d n m A) : ∃ g : Nat → D, itemsL μ d = some (genL n g) ∧ ∀ a, a < n → itemsL μ (g a) = some (rowL m (A a)) := by
  obtain ⟨ds, g1, g2, g3⟩ := t
  refine ⟨fun a => ds.getD a .non, ?_, fun a ha => ?_⟩
  · rw [g1]
    refine congrArg some (genL_ext g2 fun a ha => ?_)
    rw [List.getD_eq_getElem?_getD, List.getElem?_eq_getElem (by omega)]; rfl
  · obtain ⟨e, w1, w2⟩ := g3 a ha
    dsimp only
    rw [List.getD_eq_getElem?_getD, w1]; exact w2
theorem mixed (hp : P.fns "mixed" = some f_mixed) {x : Nat → Int} {X : Nat} (hx : itemsL μ d = some (rowL n x)) (t : TA μ e n m A) (hn1 : 1 ≤ n) (hn : n ≤ 900) (hm : m ≤ 900) (hX : ∀ i, i < n → (x i).natAbs ≤ 2 ^ X) (hA : ∀ i j, i < n → j < m → (A i j).natAbs ≤ 2 ^ B) (hB : X + B < 120000000)
    (q : Q (.lst (rowL m (mixN n x A)), 1) μ) : Wp ((tb P (k + 1)).call "mixed" b [d, e] μ) Q E := by
  refine (wp_call hp).mpr ((wp_run (by rfl)).mpr ?_)
  unfold b_mixed s_mixed_0
  obtain ⟨y, h1, h2⟩ := t.row (i := 0) (by decide) (by omega)
  obtain ⟨g, g1, g2⟩ := t.gen
  obtain ⟨s1, a1, a2, a3⟩ := src_of hx
  obtain ⟨s2, c1, c2, c3⟩ := src_of g1
  simp only [List.map_cons, List.map_nil, List.replicate, List.cons_append, List.nil_append, ws_cons, ws_nil, ws_ife, ws_set, ws_sub, ws_ret_, ws_expr, ws_pass, ws_retn, ws_brk, ws_cnt, x_cmp, x_cmp2, x_ix, x_int, x_bl, x_str, x_non, x_npart, x_bin, x_neg, x_not, x_and, x_or, x_ife, x_lst, x_tup, x_call, x_bi, x_thaw, x_glob, ws_nilE, ws_consE, y_var, List.getElem?_cons_zero, List.getElem?_cons_succ, Option.some.injEq, exists_eq_left', List.set_cons_zero, List.set_cons_succ, c_gt, c_lt, c_le, c_ge, c_eq, c_ne, t_bl, t_int, n_add, n_sub, n_mul, n_mod, n_fdiv, n_pow, n_neg, ix_lst, ix_tup, decide_eq_true_eq, decide_eq_false_iff_not, h1, bi_len h2, genL_len, x_lc, i_r1, VM.D.int.injEq]
  refine ⟨small_of (by omega) (by omega), ?_⟩
  rw [Int.toNat_natCast, range_gen]
  refine wp_lcGen (n := m) (h := fun j => .int (mixN n x A j)) (fun j => src_data j) rfl (size_small (by omega)) (fun j hj => ?_) ⟨_, f_rowL, by rw [List.take_length]; exact q⟩
  simp only [ws_ife, ws_set, ws_sub, ws_ret_, ws_expr, ws_pass, ws_retn, ws_brk, ws_cnt, x_cmp, x_cmp2, x_ix, x_int, x_bl, x_str, x_non, x_npart, x_bin, x_neg, x_not, x_and, x_or, x_ife, x_lst, x_tup, x_call, x_bi, x_thaw, x_glob, ws_nilE, ws_consE, y_var, List.getElem?_cons_zero, List.getElem?_cons_succ, Option.some.injEq, exists_eq_left', List.set_cons_zero, List.set_cons_succ, c_gt, c_lt, c_le, c_ge, c_eq, c_ne, t_bl, t_int, n_add, n_sub, n_mul, n_mod, n_fdiv, n_pow, n_neg, ix_lst, ix_tup, decide_eq_true_eq, decide_eq_false_iff_not, lc_name, wipe1, Bool.true_eq_false, false_implies, and_true, true_implies, x_lc, i_zp, a1, c1]
  refine wp_lcGen (n := n) (g := fun i => D.tup [.int (x i), g i]) (h := fun i => .int (x i * A i j)) (fun i => zip_at a2 c2 i) ?_ (size_small (by omega)) (fun i hi => ?_) ?_
  · show min (s1.size μ) (s2.size μ) = _
    rw [a3, c3, genL_len, genL_len, genL_len, Nat.min_self]
  · have r := ix_of (i := (0 : Int) + (j : Nat)) (g2 i hi)
    rw [genL_atI (by omega) (by omega), show ((0 : Int) + (j : Nat)).toNat = j by omega] at r
    simp only [ws_ife, ws_set, ws_sub, ws_ret_, ws_expr, ws_pass, ws_retn, ws_brk, ws_cnt, x_cmp, x_cmp2, x_ix, x_int, x_bl, x_str, x_non, x_npart, x_bin, x_neg, x_not, x_and, x_or, x_ife, x_lst, x_tup, x_call, x_bi, x_thaw, x_glob, ws_nilE, ws_consE, y_var, List.getElem?_cons_zero, List.getElem?_cons_succ, Option.some.injEq, exists_eq_left', List.set_cons_zero, List.set_cons_succ, c_gt, c_lt, c_le, c_ge, c_eq, c_ne, t_bl, t_int, n_add, n_sub, n_mul, n_mod, n_fdiv, n_pow, n_neg, ix_lst, ix_tup, decide_eq_true_eq, decide_eq_false_iff_not, lc_two, wipe2, Bool.true_eq_false, false_implies, and_true, true_implies, r]
    have l1 := lge (hX i hi)
    have l2 := lge (hA i j hi hj)
    omega
  · rw [bi_sum]
    exact ⟨rfl, rfl⟩
theorem product (hp : P.fns "product" = some f_product) (hm : P.fns "mixed" = some f_mixed) {X l : Nat} (tr : TA μ d p l R) (t : TA μ e n m A) (hp1 : 1 ≤ p) (hp9 : p ≤ 900) (hn1 : 1 ≤ n) (hn : n ≤ 900) (hm9 : m ≤ 900) (hX : ∀ i j, i < p → j < l → (R i j).natAbs ≤ 2 ^ X) (hA : ∀ i j, i < n → j < m → (A i j).natAbs ≤ 2 ^ B) (hB : X + B < 120000000)
    (e1 : l ≠ n → E ⟨"NoMatch", none⟩ μ) (q : l = n → Q (tabD p m (Det.mul n R A), 2) μ) : Wp ((tb P (k + 2)).call "product" b [d, e] μ) Q E := by
  refine (wp_call hp).mpr ((wp_run (by rfl)).mpr ?_)
  unfold b_product s_product_0 s_product_1
  obtain ⟨y, h1, h2⟩ := tr.row (i := 0) (by decide) (by omega)
  rw [ws_cons]
  simp only [List.map_cons, List.map_nil, List.replicate, List.cons_append, List.nil_append, ws_ife, ws_set, ws_sub, ws_ret_, ws_expr, ws_pass, ws_retn, ws_brk, ws_cnt, x_cmp, x_cmp2, x_ix, x_int, x_bl, x_str, x_non, x_npart, x_bin, x_neg, x_not, x_and, x_or, x_ife, x_lst, x_tup, x_call, x_bi, x_thaw, x_glob, ws_nilE, ws_consE, y_var, List.getElem?_cons_zero, List.getElem?_cons_succ, Option.some.injEq, exists_eq_left', List.set_cons_zero, List.set_cons_succ, c_gt, c_lt, c_le, c_ge, c_eq, c_ne, t_bl, t_int, n_add, n_sub, n_mul, n_mod, n_fdiv, n_pow, n_neg, ix_lst, ix_tup, decide_eq_true_eq, decide_eq_false_iff_not, h1, bi_len h2, genL_len, t.blen, ws_cons, ws_nil, ws_raise]
  refine ⟨fun h => by rw [List.take_length]; exact e1 (by omega), fun h => ?_⟩
  have hl : l = n := by omega
  subst hl
  obtain ⟨g, g1, g2⟩ := tr.gen
  obtain ⟨s2, c1, c2, c3⟩ := src_of g1
  have c4 := srcIt_of g1 c1
  simp only [x_lcd, i_exD, ws_ife, ws_set, ws_sub, ws_ret_, ws_expr, ws_pass, ws_retn, ws_brk, ws_cnt, x_cmp, x_cmp2, x_ix, x_int, x_bl, x_str, x_non, x_npart, x_bin, x_neg, x_not, x_and, x_or, x_ife, x_lst, x_tup, x_call, x_bi, x_thaw, x_glob, ws_nilE, ws_consE, y_var, List.getElem?_cons_zero, List.getElem?_cons_succ, Option.some.injEq, exists_eq_left', List.set_cons_zero, List.set_cons_succ, c_gt, c_lt, c_le, c_ge, c_eq, c_ne, t_bl, t_int, n_add, n_sub, n_mul, n_mod, n_fdiv, n_pow, n_neg, ix_lst, ix_tup, decide_eq_true_eq, decide_eq_false_iff_not, c4]
  refine wp_lcGen (n := p) (g := g) (h := fun i => .lst (rowL m (Det.mul l R A i))) c2 c3 (size_small (by omega)) (fun i hi => ?_) ⟨_, f_tab, by rw [List.take_length]; exact q rfl⟩
  simp only [ws_ife, ws_set, ws_sub, ws_ret_, ws_expr, ws_pass, ws_retn, ws_brk, ws_cnt, x_cmp, x_cmp2, x_ix, x_int, x_bl, x_str, x_non, x_npart, x_bin, x_neg, x_not, x_and, x_or, x_ife, x_lst, x_tup, x_call, x_bi, x_thaw, x_glob, ws_nilE, ws_consE, y_var, List.getElem?_cons_zero, List.getElem?_cons_succ, Option.some.injEq, exists_eq_left', List.set_cons_zero, List.set_cons_succ, c_gt, c_lt, c_le, c_ge, c_eq, c_ne, t_bl, t_int, n_add, n_sub, n_mul, n_mod, n_fdiv, n_pow, n_neg, ix_lst, ix_tup, decide_eq_true_eq, decide_eq_false_iff_not, lcd_name, wipe1, Bool.true_eq_false, false_implies, and_true, true_implies]
  exact mixed (X := X) (B := B) hm (g2 i hi) t hn1 hn hm9 (fun j hj => hX i j hi hj) hA hB ⟨Nat.le_refl _, rfl, rfl⟩
theorem law_product (hp : P.fns "_law_product" = some f__law_product) (hm : P.fns "_law_mix" = some f__law_mix) {X : Nat} (tr : TA μ d p n R) (t : TA μ e n m A) (hp1 : 1 ≤ p) (hp9 : p ≤ 900) (hn1 : 1 ≤ n) (hn : n ≤ 900) (hm9 : m ≤ 900) (hX : ∀ i j, i < p → j < n → (R i j).natAbs ≤ 2 ^ X) (hA : ∀ i j, i < n → j < m → (A i j).natAbs ≤ 2 ^ B) (hB : X + B < 120000000)
    (q : Q (tabD p m (Det.mul n R A), 1) μ) : Wp ((tb P (k + 2)).call "_law_product" b [d, e] μ) Q E := by
  refine (wp_call hp).mpr ((wp_run (by rfl)).mpr ?_)
  unfold b__law_product s__law_product_0
  obtain ⟨g, g1, g2⟩ := tr.gen
  obtain ⟨s2, c1, c2, c3⟩ := src_of g1
  have c4 := srcIt_of g1 c1
  simp only [List.map_cons, List.map_nil, List.replicate, List.cons_append, List.nil_append, ws_cons, ws_nil, x_lc, i_exD, ws_ife, ws_set, ws_sub, ws_ret_, ws_expr, ws_pass, ws_retn, ws_brk, ws_cnt, x_cmp, x_cmp2, x_ix, x_int, x_bl, x_str, x_non, x_npart, x_bin, x_neg, x_not, x_and, x_or, x_ife, x_lst, x_tup, x_call, x_bi, x_thaw, x_glob, ws_nilE, ws_consE, y_var, List.getElem?_cons_zero, List.getElem?_cons_succ, Option.some.injEq, exists_eq_left', List.set_cons_zero, List.set_cons_succ, c_gt, c_lt, c_le, c_ge, c_eq, c_ne, t_bl, t_int, n_add, n_sub, n_mul, n_mod, n_fdiv, n_pow, n_neg, ix_lst, ix_tup, decide_eq_true_eq, decide_eq_false_iff_not, c4]
  refine wp_lcGen (n := p) (g := g) (h := fun i => .lst (rowL m (Det.mul n R A i))) c2 c3 (size_small (by omega)) (fun i hi => ?_) ⟨_, f_tab, by rw [List.take_length]; exact q⟩
  simp only [ws_ife, ws_set, ws_sub, ws_ret_, ws_expr, ws_pass, ws_retn, ws_brk, ws_cnt, x_cmp, x_cmp2, x_ix, x_int, x_bl, x_str, x_non, x_npart, x_bin, x_neg, x_not, x_and, x_or, x_ife, x_lst, x_tup, x_call, x_bi, x_thaw, x_glob, ws_nilE, ws_consE, y_var, List.getElem?_cons_zero, List.getElem?_cons_succ, Option.some.injEq, exists_eq_left', List.set_cons_zero, List.set_cons_succ, c_gt, c_lt, c_le, c_ge, c_eq, c_ne, t_bl, t_int, n_add, n_sub, n_mul, n_mod, n_fdiv, n_pow, n_neg, ix_lst, ix_tup, decide_eq_true_eq, decide_eq_false_iff_not, lc_name, wipe1, Bool.true_eq_false, false_implies, and_true, true_implies]
  exact law_mix (X := X) (B := B) hm (g2 i hi) t hn1 hn hm9 (fun j hj => hX i j hi hj) hA hB ⟨rfl, rfl⟩
end
end VM

set_option autoImplicit false
set_option linter.unusedVariables false
/-! choices of places -/
namespace PC
def lastD (xs : List Nat) : Nat := xs.getLastD 0
def okp (some : List Nat) (p : Nat) : Bool := decide (some = []) || decide (lastD some < p)
def ext (many : Nat) (some : List Nat) : List (List Nat) := ((List.range many).filter (okp some)).map fun p => some ++ [p]
def ch (many : Nat) : Nat → List (List Nat)
  | 0 => [[]]
  | s + 1 => (ch many s).flatMap (ext many)
def lch (many : Nat) : Nat → Nat → List (List Nat)
  | 0, _ => [[]]
  | s + 1, first => (List.range' first (many - first)).flatMap fun p => (lch many s (p + 1)).map fun r => p :: r
def it (many : Nat) : Nat → List (List Nat) → List (List Nat)
  | 0, xs => xs
  | s + 1, xs => it many s (xs.flatMap (ext many))
theorem it_succ {many : Nat} : ∀ {s : Nat} {xs : List (List Nat)}, it many (s + 1) xs = (it many s xs).flatMap (ext many)
  | 0, xs => rfl
  | s + 1, xs => by
    show it many (s + 1) (xs.flatMap (ext many)) = (it many s (xs.flatMap (ext many))).flatMap (ext many)
    exact it_succ
theorem ch_it {many : Nat} : ∀ s, ch many s = it many s [[]]
  | 0 => rfl
  | s + 1 => by rw [it_succ, ← ch_it s]; rfl
theorem it_flat {many : Nat} : ∀ {s : Nat} {xs : List (List Nat)}, it many s xs = xs.flatMap fun q => it many s [q]
  | 0, xs => by
    show xs = xs.flatMap fun q => [q]
    simp
  | s + 1, xs => by
    show it many s (xs.flatMap (ext many)) = xs.flatMap fun q => it many s ([q].flatMap (ext many))
    rw [it_flat]
    rw [List.flatMap_assoc]
    refine congrArg (xs.flatMap ·) (funext fun q => ?_)
    rw [show [q].flatMap (ext many) = ext many q by simp, ← it_flat]
theorem filter_range' {many l : Nat} : (List.range many).filter (fun p => decide (l < p)) = List.range' (l + 1) (many - (l + 1)) := by
  induction many with
  | zero => simp
  | succ n ih =>
    rw [List.range_succ, List.filter_append, ih]
    by_cases h : l < n
    · rw [show n + 1 - (l + 1) = (n - (l + 1)) + 1 by omega, List.range'_concat]
      have : [n].filter (fun p => decide (l < p)) = [n] := by simp [h]
      rw [this]; congr 2; omega
    · have : [n].filter (fun p => decide (l < p)) = [] := by simp [h]
      rw [this, show n - (l + 1) = 0 by omega, show n + 1 - (l + 1) = 0 by omega]; rfl
theorem last_snoc {pre : List Nat} {p : Nat} : lastD (pre ++ [p]) = p := by unfold lastD; simp
theorem it_pre {many : Nat} : ∀ {s : Nat} {pre : List Nat}, pre ≠ [] → it many s [pre] = (lch many s (lastD pre + 1)).map fun r => pre ++ r
  | 0, pre, _ => by show [pre] = [pre ++ []]; simp
  | s + 1, pre, h => by
    show it many s ([pre].flatMap (ext many)) = _
    rw [show [pre].flatMap (ext many) = ext many pre by simp, it_flat]
    unfold ext
    have e : (List.range many).filter (okp pre) = List.range' (lastD pre + 1) (many - (lastD pre + 1)) := by
      rw [← filter_range']
      refine congrArg (fun f => (List.range many).filter f) (funext fun p => ?_)
      unfold okp; simp [h]
    rw [e, List.flatMap_map]
    show _ = ((List.range' (lastD pre + 1) (many - (lastD pre + 1))).flatMap fun p => (lch many s (p + 1)).map fun r => p :: r).map fun r => pre ++ r
    rw [List.map_flatMap]
    refine congrArg (fun f => (List.range' (lastD pre + 1) (many - (lastD pre + 1))).flatMap f) (funext fun p => ?_)
    rw [it_pre (by simp), last_snoc, List.map_map]
    refine List.map_congr_left fun r _ => ?_
    simp
theorem ch_lch {many s : Nat} : ch many s = lch many s 0 := by
  rw [ch_it]
  cases s with
  | zero => rfl
  | succ s =>
    show it many s ([[]].flatMap (ext many)) = _
    rw [show [[]].flatMap (ext many) = ext many [] by simp, it_flat]
    unfold ext
    have e : (List.range many).filter (okp []) = List.range' 0 (many - 0) := by
      rw [show (List.range many).filter (okp []) = List.range many by apply List.filter_eq_self.mpr; intro a _; rfl, List.range_eq_range']; rfl
    rw [e, List.flatMap_map]
    refine congrArg (fun f => (List.range' 0 (many - 0)).flatMap f) (funext fun p => ?_)
    rw [it_pre (by simp)]; rfl
/-- rising places -/
def Inc (first many : Nat) : List Nat → Prop
  | [] => True
  | p :: r => first ≤ p ∧ p < many ∧ Inc (p + 1) many r
theorem mem_lch {many : Nat} : ∀ {s first : Nat} {r : List Nat}, r ∈ lch many s first ↔ r.length = s ∧ Inc first many r
  | 0, first, r => by
    show r ∈ [[]] ↔ _
    rw [List.mem_singleton]
    constructor
    · rintro rfl; exact ⟨rfl, trivial⟩
    · rintro ⟨h, _⟩; exact List.length_eq_zero_iff.mp h
  | s + 1, first, r => by
    show r ∈ (List.range' first (many - first)).flatMap _ ↔ _
    rw [List.mem_flatMap]
    constructor
    · rintro ⟨p, hp, hr⟩
      obtain ⟨q, hq, rfl⟩ := List.mem_map.mp hr
      obtain ⟨h1, h2⟩ := mem_lch.mp hq
      have hp := List.mem_range'_1.mp hp
      exact ⟨by simp [h1], hp.1, by omega, h2⟩
    · rintro ⟨h1, h2⟩
      cases r with
      | nil => simp at h1
      | cons p q =>
        obtain ⟨h3, h4, h5⟩ := h2
        exact ⟨p, List.mem_range'_1.mpr ⟨h3, by omega⟩, List.mem_map.mpr ⟨q, mem_lch.mpr ⟨by simpa using h1, h5⟩, rfl⟩⟩
theorem nodup_flat {α β : Type} {f : α → List β} : ∀ {l : List α}, l.Nodup → (∀ a ∈ l, (f a).Nodup) → (∀ a ∈ l, ∀ b ∈ l, a ≠ b → ∀ x ∈ f a, x ∉ f b) → (l.flatMap f).Nodup
  | [], _, _, _ => by simp
  | a :: l, hd, h1, h2 => by
    rw [List.nodup_cons] at hd
    rw [List.flatMap_cons, List.nodup_append]
    refine ⟨h1 a List.mem_cons_self, nodup_flat hd.2 (fun b hb => h1 b (List.mem_cons_of_mem _ hb)) fun b hb c hc => h2 b (List.mem_cons_of_mem _ hb) c (List.mem_cons_of_mem _ hc), fun x hx y hy e => ?_⟩
    subst e
    obtain ⟨b, hb, hx2⟩ := List.mem_flatMap.mp hy
    exact h2 a List.mem_cons_self b (List.mem_cons_of_mem _ hb) (fun z => hd.1 (z ▸ hb)) x hx hx2
theorem nodup_map_inj {α β : Type} {f : α → β} (hf : ∀ a b, f a = f b → a = b) : ∀ {l : List α}, l.Nodup → (l.map f).Nodup
  | [], _ => by simp
  | a :: l, hd => by
    rw [List.nodup_cons] at hd
    rw [List.map_cons, List.nodup_cons]
    refine ⟨fun h => ?_, nodup_map_inj hf hd.2⟩
    obtain ⟨b, hb, e⟩ := List.mem_map.mp h
    exact hd.1 (hf _ _ e ▸ hb)
theorem nodup_lch {many : Nat} : ∀ {s first : Nat}, (lch many s first).Nodup
  | 0, _ => by show [[]].Nodup; simp
  | s + 1, first => by
    refine nodup_flat List.nodup_range' (fun p _ => nodup_map_inj (fun a b h => by simpa using h) nodup_lch) fun a _ b _ hab x h1 h2 => ?_
    obtain ⟨_, _, rfl⟩ := List.mem_map.mp h1
    obtain ⟨_, _, e⟩ := List.mem_map.mp h2
    cases e; exact hab rfl
/-- seen from behind -/
def mir (many : Nat) (r : List Nat) : List Nat := (r.map fun p => many - 1 - p).reverse
theorem inc_lt {many : Nat} : ∀ {first : Nat} {r : List Nat}, Inc first many r → ∀ p ∈ r, first ≤ p ∧ p < many
  | _, [], _, _, h => by cases h
  | first, q :: r, ⟨h1, h2, h3⟩, p, h => by
    rcases List.mem_cons.mp h with rfl | h
    · exact ⟨h1, h2⟩
    · have := inc_lt h3 p h; exact ⟨by omega, this.2⟩
theorem inc_snoc {many : Nat} : ∀ {first : Nat} {r : List Nat} {p : Nat}, Inc first p r → first ≤ p → p < many → Inc first many (r ++ [p])
  | _, [], p, _, h1, h2 => ⟨h1, h2, trivial⟩
  | _, q :: r, p, ⟨h1, h2, h3⟩, h4, h5 => ⟨h1, by omega, inc_snoc h3 (by omega) h5⟩
theorem inc_mir {many : Nat} : ∀ {first : Nat} {r : List Nat}, Inc first many r → Inc 0 (many - first) (mir many r)
  | _, [], _ => trivial
  | first, p :: r, ⟨h1, h2, h3⟩ => by
    have ih := inc_mir h3
    show Inc 0 (many - first) (((p :: r).map fun p => many - 1 - p).reverse)
    rw [List.map_cons, List.reverse_cons]
    refine inc_snoc (p := many - 1 - p) ?_ (Nat.zero_le _) (by omega)
    rw [show many - 1 - p = many - (p + 1) by omega]; exact ih
theorem mir_mir {many : Nat} {r : List Nat} (h : ∀ p ∈ r, p < many) : mir many (mir many r) = r := by
  unfold mir
  rw [List.map_reverse, List.reverse_reverse, List.map_map]
  have : ∀ p ∈ r, ((fun p => many - 1 - p) ∘ fun p => many - 1 - p) p = p := fun p hp => by
    have := h p hp
    show many - 1 - (many - 1 - p) = p
    omega
  exact (List.map_congr_left this).trans (List.map_id' r)
theorem mir_len {many : Nat} {r : List Nat} : (mir many r).length = r.length := by unfold mir; simp
/-- the mirrored choices are the choices -/
theorem mir_perm {many s : Nat} : ((lch many s 0).map (mir many)).Perm (lch many s 0) := by
  have inv : ∀ r ∈ lch many s 0, mir many (mir many r) = r := fun r hr => mir_mir fun p hp => (inc_lt (mem_lch.mp hr).2 p hp).2
  have mem : ∀ r ∈ lch many s 0, mir many r ∈ lch many s 0 := fun r hr => by
    obtain ⟨h1, h2⟩ := mem_lch.mp hr
    exact mem_lch.mpr ⟨by rw [mir_len]; exact h1, by have := inc_mir h2; rwa [Nat.sub_zero] at this⟩
  rw [List.perm_ext_iff_of_nodup]
  · intro a
    constructor
    · intro h
      obtain ⟨r, hr, rfl⟩ := List.mem_map.mp h
      exact mem r hr
    · intro h
      exact List.mem_map.mpr ⟨mir many a, mem a h, inv a h⟩
  · have : ∀ l : List (List Nat), l.Nodup → (∀ r ∈ l, mir many (mir many r) = r) → (l.map (mir many)).Nodup := by
      intro l
      induction l with
      | nil => intro _ _; simp
      | cons a l ih =>
        intro hd hi
        rw [List.nodup_cons] at hd
        rw [List.map_cons, List.nodup_cons]
        refine ⟨fun hm => ?_, ih hd.2 fun r hr => hi r (List.mem_cons_of_mem _ hr)⟩
        obtain ⟨b, hb, e⟩ := List.mem_map.mp hm
        have := hi b (List.mem_cons_of_mem _ hb)
        rw [e, hi a List.mem_cons_self] at this
        exact hd.1 (this ▸ hb)
    exact this _ nodup_lch inv
  · exact nodup_lch
theorem lch_few : ∀ m, m < 7 → ∀ s, s < 7 → (lch m s 0).length < 64 := by decide +kernel
end PC

set_option Elab.async false
set_option maxRecDepth 10000
set_option autoImplicit false
set_option linter.unusedVariables false
set_option linter.unusedSimpArgs false
/-! choices of places -/
namespace VM
open PySem L2
def s_need_few_0 : VM.S := (.ife (.cmp .Gt (.bi "len" (.cons (.var 0) .nil)) (.bi "len" (.cons (.ix (.var 0) (.int 0)) .nil))) (.cons (.raise_ "NoMatch")
  .nil) .nil)
def b_need_few : Ss := (.cons s_need_few_0 .nil)
def f_need_few : Fn := ⟨1, 1, false, b_need_few⟩
def s_choices_0 : VM.S := (.set (.name 2) (.lst (.cons (.lst .nil) .nil)))
def s_choices_1 : VM.S := (.for_ (.name 3) (.rng1 (.var 1)) (.cons (.set (.name 4) (.thaw (.lst .nil)))
  (.cons (.for_ (.name 5) (.ex (.var 2)) (.cons (.expr (.bm (.var 4) "extend" (.cons (.lc (.bin .Add (.var 5) (.lst (.cons (.var 6) .nil))) (.name 6) (.rng1 (.var 0)) (.or (.cmp .Eq (.var 5) (.lst .nil)) (.cmp .Gt (.var 6) (.ix (.var 5) (.neg (.int 1))))) [6]) .nil)))
  .nil))
  (.cons (.set (.name 2) (.var 4))
  .nil))))
def s_choices_2 : VM.S := (.ret (.var 2))
def b_choices : Ss := (.cons s_choices_0 (.cons s_choices_1 (.cons s_choices_2 .nil)))
def f_choices : Fn := ⟨2, 7, false, b_choices⟩
def s__law_choices_0 : VM.S := (.ife (.cmp .Eq (.var 2) (.int 0)) (.cons (.ret (.lst (.cons (.lst .nil) .nil)))
  .nil) .nil)
def s__law_choices_1 : VM.S := (.set (.name 3) (.lst .nil))
def s__law_choices_2 : VM.S := (.for_ (.name 4) (.rng2 (.var 0) (.var 1)) (.cons (.set (.name 3) (.bin .Add (.var 3) (.lc (.bin .Add (.lst (.cons (.var 4) .nil)) (.var 5)) (.name 5) (.ex (.call "_law_choices" (.cons (.bin .Add (.var 4) (.int 1)) (.cons (.var 1) (.cons (.bin .Sub (.var 2) (.int 1)) .nil))))) (.bl true) [5])))
  .nil))
def s__law_choices_3 : VM.S := (.ret (.var 3))
def b__law_choices : Ss := (.cons s__law_choices_0 (.cons s__law_choices_1 (.cons s__law_choices_2 (.cons s__law_choices_3 .nil))))
def f__law_choices : Fn := ⟨3, 6, false, b__law_choices⟩
abbrev natsD (r : List Nat) : D := .lst (r.map fun p => .int (p : Nat))
abbrev chD (xs : List (List Nat)) : D := .lst (xs.map natsD)
theorem nats_ints {r : List Nat} : (r.map fun p => D.int (p : Nat)) = (r.map fun p => ((p : Nat) : Int)).map D.int := by rw [List.map_map]; rfl
section
variable {P : Pg} {μ : Sto} {d : D} {n m k b : Nat} {A : Det.Mx} {E : Exc → Sto → Prop} {Q : D × Nat → Sto → Prop}
theorem need_few (hp : P.fns "need_few" = some f_need_few) (t : TA μ d n m A) (hn : 1 ≤ n) (q : n ≤ m → Q (.non, 0) μ) (x : m < n → E ⟨"NoMatch", none⟩ μ) : Wp ((tb P (k + 1)).call "need_few" b [d] μ) Q E := by
  refine (wp_call hp).mpr ((wp_run (by rfl)).mpr ?_)
  unfold b_need_few s_need_few_0
  obtain ⟨e, h1, h2⟩ := t.row (i := 0) (by decide) (by omega)
  simp only [List.map_cons, List.map_nil, List.replicate, List.cons_append, List.nil_append, ws_cons, ws_nil, ws_ife, ws_set, ws_sub, ws_ret_, ws_expr, ws_pass, ws_retn, ws_brk, ws_cnt, x_cmp, x_cmp2, x_ix, x_int, x_bl, x_str, x_non, x_npart, x_bin, x_neg, x_not, x_and, x_or, x_ife, x_lst, x_tup, x_call, x_bi, x_thaw, x_glob, ws_nilE, ws_consE, y_var, List.getElem?_cons_zero, List.getElem?_cons_succ, Option.some.injEq, exists_eq_left', List.set_cons_zero, List.set_cons_succ, c_gt, c_lt, c_le, c_ge, c_eq, c_ne, t_bl, t_int, n_add, n_sub, n_mul, n_mod, n_fdiv, n_pow, n_neg, ix_lst, ix_tup, decide_eq_true_eq, decide_eq_false_iff_not, h1, t.blen, bi_len h2, genL_len, ws_raise, List.take_length]
  exact ⟨fun h => x (by omega), fun h => q (by omega)⟩
theorem extend_at {l : Nat} {xs ys : List D} (h : μ[l]? = some (.lst xs)) (hx : xs.length + ys.length ≤ sizeLine) (hp : b ≤ l) : Wp (bmD b "extend" (.cell l) [.lst ys] μ) Q E ↔ Q (.non, 0) (μ.set l (.lst (xs ++ ys))) := by
  have e : bmD b "extend" (.cell l) [.lst ys] μ = .ok (.non, 0) (μ.set l (.lst (xs ++ ys))) := by
    show (match μ[l]? with | some (C.lst xs) => extendD b l xs [.lst ys] μ | _ => R.bad) = _
    rw [h]
    show (if xs.length + ys.length ≤ sizeLine ∧ ys.all (mayPut b l) = true then R.ok (D.non, 0) (μ.set l (.lst (xs ++ ys))) else .bad) = _
    rw [if_pos ⟨hx, List.all_eq_true.mpr fun _ _ => put_own hp⟩]
  rw [e]; exact wp_ok
theorem ch_len {many : Nat} : ∀ s, (PC.ch many s).length ≤ many ^ s
  | 0 => Nat.le_refl _
  | s + 1 => by
    have ih := ch_len (many := many) s
    show ((PC.ch many s).flatMap (PC.ext many)).length ≤ _
    rw [List.length_flatMap, Nat.pow_succ]
    refine Nat.le_trans ?_ (Nat.mul_le_mul_right _ ih)
    have : ∀ l : List (List Nat), (l.map fun a => (PC.ext many a).length).sum ≤ l.length * many := by
      intro l
      induction l with
      | nil => simp
      | cons a l ih =>
        rw [List.map_cons, List.sum_cons, List.length_cons, Nat.succ_mul]
        have : (PC.ext many a).length ≤ many := by
          unfold PC.ext
          rw [List.length_map]
          exact Nat.le_trans (List.length_filter_le _ _) (by simp)
        omega
    exact this _
theorem ch_small {many s : Nat} (h : many ≤ 6) (h2 : s ≤ 6) : (PC.ch many s).length ≤ 46656 := Nat.le_trans (ch_len s) (Nat.le_trans (Nat.pow_le_pow_left h s) (Nat.le_trans (Nat.pow_le_pow_right (by decide) h2) (by decide)))
theorem take_flat {α β : Type} {f : α → List β} (xs : List α) (i : Nat) : ((xs.take i).flatMap f).length ≤ (xs.flatMap f).length := by
  conv => rhs; rw [← List.take_append_drop i xs, List.flatMap_append, List.length_append]
  omega
theorem last_at {r : List Nat} (h : r ≠ []) : L2.atI (r.map fun p => D.int (p : Nat)) (-1) = some (.int (PC.lastD r : Nat)) := by
  have hl : 1 ≤ r.length := List.length_pos_iff.mpr h
  unfold L2.atI ixN
  rw [if_neg (by decide), if_pos (by rw [List.length_map]; omega)]
  show (r.map _)[_]? = _
  rw [List.length_map, show ((-1 : Int) + (r.length : Int)).toNat = r.length - 1 by omega, List.getElem?_map, ← List.getLast?_eq_getElem?]
  unfold PC.lastD
  rw [List.getLastD_eq_getLast?]
  cases q : r.getLast? with
  | none => exact absurd (List.getLast?_eq_none_iff.mp q) h
  | some x => rfl
def gL (r : List Nat) : D → Option D
  | .int i => if PC.okp r i.toNat then some (natsD (r ++ [i.toNat])) else none
  | _ => none
/-- one choice made longer -/
theorem longer {T : Tb} {ρ : Ev} {many : Nat} {r : List Nat} {Q : List D → Sto → Prop} (h5 : ρ[5]? = some (some (natsD r))) (hl : ρ.length = 7) (hr : r.length ≤ 900) (hm : many ≤ 900) (q : Q ((PC.ext many r).map natsD) μ) :
    Wp (lcLoop (lcF T b (.bin .Add (.var 5) (.lst (.cons (.var 6) .nil))) (.name 6) (.or (.cmp .Eq (.var 5) (.lst .nil)) (.cmp .Gt (.var 6) (.ix (.var 5) (.neg (.int 1))))) [6] ρ) (.data (rangeD 0 many)) ((Src.data (rangeD 0 many)).size μ + 1) 0 [] μ) Q E := by
  have hs : (rangeD 0 many).filterMap (gL r) = (PC.ext many r).map natsD := by
    unfold rangeD PC.ext
    rw [List.filterMap_map, List.map_map]
    induction (List.range many) with
    | nil => rfl
    | cons a l ih =>
      have e0 : ((0 : Int) + (a : Nat)).toNat = a := by omega
      have e1 : (gL r ∘ fun i : Nat => D.int ((0 : Int) + (i : Nat))) a = if PC.okp r a then some (natsD (r ++ [a])) else none := by
        show (if PC.okp r ((0 : Int) + (a : Nat)).toNat then some (natsD (r ++ [((0 : Int) + (a : Nat)).toNat])) else none) = _
        rw [e0]
      rw [List.filterMap_cons, List.filter_cons, e1]
      by_cases h : PC.okp r a = true
      · rw [if_pos h, if_pos h, List.map_cons, ← ih]; rfl
      · rw [if_neg h, if_neg h, ← ih]
  refine wp_lcPure (xs := rangeD 0 many) (gL r) (fun i => src_data i) rfl (by rw [range_len]; exact size_small (by omega)) (fun x hx => ?_) (by rw [hs]; exact q)
  obtain ⟨a, ha, rfl⟩ : ∃ a : Nat, a < many ∧ x = .int ((0 : Int) + (a : Nat)) := by
    unfold rangeD at hx
    obtain ⟨a, ha, rfl⟩ := List.mem_map.mp hx
    exact ⟨a, List.mem_range.mp ha, rfl⟩
  have v5 : ∀ w : D, ((wipeD ρ [6]).set 6 (some w))[5]? = some (some (natsD r)) := fun w => by rw [wipe1, List.set_set, List.getElem?_set_ne (by decide)]; exact h5
  have v6 : ∀ w : D, ((wipeD ρ [6]).set 6 (some w))[6]? = some (some w) := fun w => by rw [wipe1, List.set_set]; exact List.getElem?_set_self (by omega)
  have e0 : ((0 : Int) + (a : Nat)).toNat = a := by omega
  have eq0 : cmpD .Eq (natsD r) (.lst []) μ = some (decide (r = [])) := by
    have := eq_ints (μ := μ) (d := natsD r) (e := .lst []) (r := r.map fun p => ((p : Nat) : Int)) (s := []) (congrArg some nats_ints) rfl
    rw [this]
    simp
  have add : ∀ (Q : D × Nat → Sto → Prop) (E : Exc → Sto → Prop), Wp (binD .Add (natsD r) (.lst [.int ((0 : Int) + (a : Nat))]) μ) Q E ↔ Q (natsD (r ++ [a]), 1) μ := fun Q E => by
    rw [add_lst (xs := r.map fun p => .int (p : Nat)) (ys := [.int ((0 : Int) + (a : Nat))]) rfl rfl (by simp; exact size_small (by omega))]
    have : (r.map fun p => D.int (p : Nat)) ++ [.int ((0 : Int) + (a : Nat))] = (r ++ [a]).map fun p => D.int (p : Nat) := by
      rw [List.map_append]; congr 2; simp
    rw [this]
  have eg : gL r (.int ((0 : Int) + (a : Nat))) = if PC.okp r a then some (natsD (r ++ [a])) else none := by
    show (if PC.okp r ((0 : Int) + (a : Nat)).toNat then some (natsD (r ++ [((0 : Int) + (a : Nat)).toNat])) else none) = _
    rw [e0]
  rw [eg]
  by_cases h0 : r = []
  · have ok : PC.okp r a = true := by unfold PC.okp; rw [Bool.or_eq_true]; exact .inl (decide_eq_true h0)
    rw [decide_eq_true h0] at eq0
    simp only [ws_ife, ws_set, ws_sub, ws_ret_, ws_expr, ws_pass, ws_retn, ws_brk, ws_cnt, x_cmp, x_cmp2, x_ix, x_int, x_bl, x_str, x_non, x_npart, x_bin, x_neg, x_not, x_and, x_or, x_ife, x_lst, x_tup, x_call, x_bi, x_thaw, x_glob, ws_nilE, ws_consE, y_var, List.getElem?_cons_zero, List.getElem?_cons_succ, Option.some.injEq, exists_eq_left', List.set_cons_zero, List.set_cons_succ, c_gt, c_lt, c_le, c_ge, c_eq, c_ne, t_bl, t_int, n_add, n_sub, n_mul, n_mod, n_fdiv, n_pow, n_neg, ix_lst, ix_tup, decide_eq_true_eq, decide_eq_false_iff_not, lc_name, v5, v6, List.length_nil, List.length_cons, eq0, Bool.true_eq_false, false_implies, true_implies, and_true, true_and]
    refine ⟨by decide, ?_⟩
    rw [add, if_pos ok]
    exact ⟨by decide, rfl, rfl⟩
  · have la := last_at (r := r) h0
    rw [decide_eq_false h0] at eq0
    simp only [ws_ife, ws_set, ws_sub, ws_ret_, ws_expr, ws_pass, ws_retn, ws_brk, ws_cnt, x_cmp, x_cmp2, x_ix, x_int, x_bl, x_str, x_non, x_npart, x_bin, x_neg, x_not, x_and, x_or, x_ife, x_lst, x_tup, x_call, x_bi, x_thaw, x_glob, ws_nilE, ws_consE, y_var, List.getElem?_cons_zero, List.getElem?_cons_succ, Option.some.injEq, exists_eq_left', List.set_cons_zero, List.set_cons_succ, c_gt, c_lt, c_le, c_ge, c_eq, c_ne, t_bl, t_int, n_add, n_sub, n_mul, n_mod, n_fdiv, n_pow, n_neg, ix_lst, ix_tup, decide_eq_true_eq, decide_eq_false_iff_not, lc_name, v5, v6, List.length_nil, List.length_cons, eq0, Bool.false_eq_true, false_implies, true_implies, and_true, true_and, la]
    refine ⟨by decide, fun h1 => ⟨by decide, ?_⟩, fun h1 => ?_⟩
    · rw [add]
      have : PC.okp r a = true := by unfold PC.okp; rw [Bool.or_eq_true]; exact .inr (decide_eq_true (by omega))
      rw [if_pos this]; exact ⟨rfl, rfl⟩
    · have : PC.okp r a = false := by
        unfold PC.okp
        rw [Bool.or_eq_false_iff]
        exact ⟨decide_eq_false h0, decide_eq_false (by omega)⟩
      rw [this]; rfl
abbrev evC (many size : Nat) (d : D) (o3 o4 o5 o6 : Option D) : Ev := [some (.int (many : Nat)), some (.int (size : Nat)), some d, o3, o4, o5, o6]
theorem frz_nats {N f : Nat} {ν : Sto} (r : List Nat) : frz N ν (f + 2) (natsD r) = some (natsD r) := by
  have := frz_intL (n := N) (k := f) (μ := ν) (r.map fun p => ((p : Nat) : Int))
  rw [← nats_ints] at this; exact this
theorem frz_vals {N f : Nat} {ν : Sto} (xs : List (List Nat)) : (xs.map natsD).mapM (frz N ν (f + 2)) = some (xs.map natsD) := by
  induction xs with
  | nil => simp
  | cons x xs ih => rw [List.map_cons, List.mapM_cons, frz_nats, ih]; rfl
/-- the choices told -/
theorem out_ch {N f : Nat} {ν : Sto} {d : D} {xs : List (List Nat)} (h : d = chD xs ∨ ∃ c, d = .cell c ∧ N ≤ c ∧ ν[c]? = some (.lst (xs.map natsD))) : ∃ f', frzTop N d f ν = some (chD xs, f') := by
  rcases h with rfl | ⟨c, rfl, hc, he⟩
  · refine ⟨if f ≤ 1 then f else if noRef 9 (chD xs) then f else 1, ?_⟩
    show (frz N ν 9 (chD xs)).map (fun d' => (d', if f ≤ 1 then f else if noRef 9 (chD xs) then f else 1)) = _
    have : frz N ν 9 (chD xs) = some (chD xs) := by
      show ((xs.map natsD).mapM (frz N ν 8)).map D.lst = _
      rw [frz_vals (f := 6)]; rfl
    rw [this]; rfl
  · refine ⟨ownF N (.cell c) ν, ?_⟩
    have : frz N ν 10 (.cell c) = some (chD xs) := by
      show (if c < N then some (D.cell c) else match ν[c]? with | some (.lst xs) => (xs.mapM (frz N ν 9)).map D.lst | _ => none) = _
      rw [if_neg (by omega), he]
      show ((xs.map natsD).mapM (frz N ν 9)).map D.lst = _
      rw [frz_vals (f := 7)]; rfl
    show (if c < N then some (D.cell c, 0) else (frz N ν 10 (.cell c)).map fun d' => (d', ownF N (.cell c) ν)) = _
    rw [if_neg (by omega), this]; rfl
theorem ch_mem {many : Nat} : ∀ {s : Nat} {r : List Nat}, r ∈ PC.ch many s → r.length = s := fun {s r} h => by
  rw [PC.ch_lch] at h; exact (PC.mem_lch.mp h).1
theorem choices (hp : P.fns "choices" = some f_choices) {many size : Nat} (hm : many ≤ 6) (hs : size ≤ 6) (q : ∀ f, Q (chD (PC.ch many size), f) μ) : Wp ((tb P (k + 1)).call "choices" b [.int (many : Nat), .int (size : Nat)] μ) Q E := by
  refine (wp_call hp).mpr ((wp_run (by rfl)).mpr ?_)
  unfold b_choices s_choices_0
  rw [ws_cons]
  simp only [List.map_cons, List.map_nil, List.replicate, List.cons_append, List.nil_append, ws_ife, ws_set, ws_sub, ws_ret_, ws_expr, ws_pass, ws_retn, ws_brk, ws_cnt, x_cmp, x_cmp2, x_ix, x_int, x_bl, x_str, x_non, x_npart, x_bin, x_neg, x_not, x_and, x_or, x_ife, x_lst, x_tup, x_call, x_bi, x_thaw, x_glob, ws_nilE, ws_consE, y_var, List.getElem?_cons_zero, List.getElem?_cons_succ, Option.some.injEq, exists_eq_left', List.set_cons_zero, List.set_cons_succ, c_gt, c_lt, c_le, c_ge, c_eq, c_ne, t_bl, t_int, n_add, n_sub, n_mul, n_mod, n_fdiv, n_pow, n_neg, ix_lst, ix_tup, decide_eq_true_eq, decide_eq_false_iff_not, List.length_nil, List.length_cons]
  refine ⟨by decide, by decide, ?_⟩
  rw [ws_cons]
  unfold s_choices_1
  refine ws_forRange ?_
  simp only [ws_ife, ws_set, ws_sub, ws_ret_, ws_expr, ws_pass, ws_retn, ws_brk, ws_cnt, x_cmp, x_cmp2, x_ix, x_int, x_bl, x_str, x_non, x_npart, x_bin, x_neg, x_not, x_and, x_or, x_ife, x_lst, x_tup, x_call, x_bi, x_thaw, x_glob, ws_nilE, ws_consE, y_var, List.getElem?_cons_zero, List.getElem?_cons_succ, Option.some.injEq, exists_eq_left', List.set_cons_zero, List.set_cons_succ, c_gt, c_lt, c_le, c_ge, c_eq, c_ne, t_bl, t_int, n_add, n_sub, n_mul, n_mod, n_fdiv, n_pow, n_neg, ix_lst, ix_tup, decide_eq_true_eq, decide_eq_false_iff_not, i_r1, VM.D.int.injEq]
  refine ⟨small_of (by omega) (by omega), 0, _, fun t ρ' μ' => ∃ d o3 o4 o5 o6, ρ' = evC many size d o3 o4 o5 o6 ∧ μ'.take μ.length = μ ∧ μ.length ≤ μ'.length ∧ (d = chD (PC.ch many t) ∨ ∃ c, d = .cell c ∧ μ.length ≤ c ∧ μ'[c]? = some (.lst ((PC.ch many t).map natsD))), rfl, ⟨_, none, none, none, none, rfl, List.take_length, Nat.le_refl _, .inl rfl⟩, fun t ρ' μ' ht hI => ?_, fun ρ' μ' hI => ?_⟩
  · obtain ⟨d, o3, o4, o5, o6, rfl, h1, h2, h3⟩ := hI
    rw [ws_cons]
    simp only [evC, ws_ife, ws_set, ws_sub, ws_ret_, ws_expr, ws_pass, ws_retn, ws_brk, ws_cnt, x_cmp, x_cmp2, x_ix, x_int, x_bl, x_str, x_non, x_npart, x_bin, x_neg, x_not, x_and, x_or, x_ife, x_lst, x_tup, x_call, x_bi, x_thaw, x_glob, ws_nilE, ws_consE, y_var, List.getElem?_cons_zero, List.getElem?_cons_succ, Option.some.injEq, exists_eq_left', List.set_cons_zero, List.set_cons_succ, c_gt, c_lt, c_le, c_ge, c_eq, c_ne, t_bl, t_int, n_add, n_sub, n_mul, n_mod, n_fdiv, n_pow, n_neg, ix_lst, ix_tup, decide_eq_true_eq, decide_eq_false_iff_not, List.length_nil, Prod.mk.injEq, VM.D.lst.injEq]
    refine ⟨by decide, [], 0, ⟨rfl, rfl⟩, ?_⟩
    rw [ws_cons]
    have hd : itemsL (μ' ++ [C.lst []]) d = some ((PC.ch many t).map natsD) := by
      rcases h3 with rfl | ⟨c, rfl, hc, he⟩
      · rfl
      · refine items_cell ?_
        rw [List.getElem?_append_left (List.getElem?_eq_some_iff.mp he).1]; exact he
    obtain ⟨src, s1, s2, s3⟩ := src_of hd
    have s4 := srcIt_of hd s1
    refine ws_for ?_
    simp only [i_exD, ws_ife, ws_set, ws_sub, ws_ret_, ws_expr, ws_pass, ws_retn, ws_brk, ws_cnt, x_cmp, x_cmp2, x_ix, x_int, x_bl, x_str, x_non, x_npart, x_bin, x_neg, x_not, x_and, x_or, x_ife, x_lst, x_tup, x_call, x_bi, x_thaw, x_glob, ws_nilE, ws_consE, y_var, List.getElem?_cons_zero, List.getElem?_cons_succ, Option.some.injEq, exists_eq_left', List.set_cons_zero, List.set_cons_succ, c_gt, c_lt, c_le, c_ge, c_eq, c_ne, t_bl, t_int, n_add, n_sub, n_mul, n_mod, n_fdiv, n_pow, n_neg, ix_lst, ix_tup, decide_eq_true_eq, decide_eq_false_iff_not, s4]
    refine ⟨(PC.ch many t).map natsD, fun i ρ' ν => ∃ o5 o6, ρ' = evC many size d (some (.int (0 + (t : Nat)))) (some (.cell μ'.length)) o5 o6 ∧ ν.length = μ'.length + 1 ∧ (∀ k, k < μ'.length → ν[k]? = μ'[k]?) ∧ ν[μ'.length]? = some (.lst ((((PC.ch many t).take i).flatMap (PC.ext many)).map natsD)), fun i ρ' ν hJ => ?_, s3, ⟨o5, o6, rfl, by simp, fun k hk => List.getElem?_append_left hk, by rw [List.getElem?_append_right (Nat.le_refl _), Nat.sub_self]; rfl⟩, fun i x ρ' ν hx hJ => ?_, fun ρ' ν hJ => ?_⟩
    · obtain ⟨_, _, _, hl, hk, _⟩ := hJ
      rcases h3 with rfl | ⟨c, rfl, hc, he⟩
      · cases s1; exact src_data i
      · have hlt := (List.getElem?_eq_some_iff.mp he).1
        have e1 : srcL (μ' ++ [C.lst []]) (.cell c) = some (.cell c) := srcL_cell (xs := (PC.ch many t).map natsD) (by rw [List.getElem?_append_left hlt]; exact he)
        rw [e1] at s1; cases s1
        exact src_cell (by rw [hk c hlt]; exact he) i
    · obtain ⟨o5, o6, rfl, hl, hk, hc⟩ := hJ
      rw [List.getElem?_map] at hx
      obtain ⟨r, hr, rfl⟩ := map_some hx
      have hrl := ch_mem (List.mem_of_getElem? hr)
      rw [ws_cons]
      simp only [evC, ws_ife, ws_set, ws_sub, ws_ret_, ws_expr, ws_pass, ws_retn, ws_brk, ws_cnt, x_cmp, x_cmp2, x_ix, x_int, x_bl, x_str, x_non, x_npart, x_bin, x_neg, x_not, x_and, x_or, x_ife, x_lst, x_tup, x_call, x_bi, x_thaw, x_glob, ws_nilE, ws_consE, y_var, List.getElem?_cons_zero, List.getElem?_cons_succ, Option.some.injEq, exists_eq_left', List.set_cons_zero, List.set_cons_succ, c_gt, c_lt, c_le, c_ge, c_eq, c_ne, t_bl, t_int, n_add, n_sub, n_mul, n_mod, n_fdiv, n_pow, n_neg, ix_lst, ix_tup, decide_eq_true_eq, decide_eq_false_iff_not, x_bm, items_cell hc, x_lc, i_r1, VM.D.int.injEq]
      refine ⟨small_of (by omega) (by omega), ?_⟩
      rw [Int.toNat_natCast]
      refine longer (many := many) (r := r) rfl rfl (by omega) (by omega) ?_
      have e1 : ((PC.ch many t).take (i + 1)).flatMap (PC.ext many) = ((PC.ch many t).take i).flatMap (PC.ext many) ++ PC.ext many r := by
        rw [List.take_add_one, hr, List.flatMap_append]; simp
      have hz : ((((PC.ch many t).take i).flatMap (PC.ext many)).map natsD).length + ((PC.ext many r).map natsD).length ≤ sizeLine := by
        rw [List.length_map, List.length_map, ← List.length_append, ← e1]
        have h1 := take_flat (f := PC.ext many) (PC.ch many t) (i + 1)
        have h2 : ((PC.ch many t).flatMap (PC.ext many)).length ≤ 46656 := ch_small (s := t + 1) hm (by omega)
        exact Nat.le_trans h1 (Nat.le_trans h2 (by decide))
      rw [extend_at hc hz (by omega)]
      rw [ws_nil]
      refine ⟨_, _, rfl, by rw [List.length_set]; exact hl, fun k hk' => by rw [List.getElem?_set_ne (by omega)]; exact hk k hk', ?_⟩
      rw [List.getElem?_set_self (by omega), e1, List.map_append]
    · obtain ⟨o5, o6, rfl, hl, hk, hc⟩ := hJ
      rw [List.length_map, List.take_length] at hc
      simp only [ws_cons, ws_nil, evC, ws_ife, ws_set, ws_sub, ws_ret_, ws_expr, ws_pass, ws_retn, ws_brk, ws_cnt, x_cmp, x_cmp2, x_ix, x_int, x_bl, x_str, x_non, x_npart, x_bin, x_neg, x_not, x_and, x_or, x_ife, x_lst, x_tup, x_call, x_bi, x_thaw, x_glob, ws_nilE, ws_consE, y_var, List.getElem?_cons_zero, List.getElem?_cons_succ, Option.some.injEq, exists_eq_left', List.set_cons_zero, List.set_cons_succ, c_gt, c_lt, c_le, c_ge, c_eq, c_ne, t_bl, t_int, n_add, n_sub, n_mul, n_mod, n_fdiv, n_pow, n_neg, ix_lst, ix_tup, decide_eq_true_eq, decide_eq_false_iff_not]
      refine ⟨_, _, _, _, _, rfl, ?_, by omega, .inr ⟨_, rfl, h2, hc⟩⟩
      refine Eq.trans (List.ext_getElem? fun k => ?_) h1
      rw [List.getElem?_take, List.getElem?_take]
      split
      · exact hk k (by omega)
      · rfl
  · obtain ⟨d, o3, o4, o5, o6, rfl, h1, h2, h3⟩ := hI
    rw [Int.toNat_natCast] at h3
    unfold s_choices_2
    simp only [ws_cons, ws_nil, evC, ws_ife, ws_set, ws_sub, ws_ret_, ws_expr, ws_pass, ws_retn, ws_brk, ws_cnt, x_cmp, x_cmp2, x_ix, x_int, x_bl, x_str, x_non, x_npart, x_bin, x_neg, x_not, x_and, x_or, x_ife, x_lst, x_tup, x_call, x_bi, x_thaw, x_glob, ws_nilE, ws_consE, y_var, List.getElem?_cons_zero, List.getElem?_cons_succ, Option.some.injEq, exists_eq_left', List.set_cons_zero, List.set_cons_succ, c_gt, c_lt, c_le, c_ge, c_eq, c_ne, t_bl, t_int, n_add, n_sub, n_mul, n_mod, n_fdiv, n_pow, n_neg, ix_lst, ix_tup, decide_eq_true_eq, decide_eq_false_iff_not]
    obtain ⟨f', e⟩ := out_ch (f := 0) h3
    exact ⟨_, e, by rw [h1]; exact q f'⟩
end
end VM

set_option Elab.async false
set_option maxRecDepth 10000
set_option autoImplicit false
set_option linter.unusedVariables false
set_option linter.unusedSimpArgs false
/-! the law's own choices; divisors -/
namespace VM
open PySem L2
def s_divisor_0 : VM.S := (.set (.name 0) (.bi "abs" (.cons (.var 0) .nil)))
def s_divisor_1 : VM.S := (.set (.name 1) (.bi "abs" (.cons (.var 1) .nil)))
def s_divisor_2 : VM.S := (.while_ (.cmp .Gt (.var 1) (.int 0)) (.cons (.par 0 1 (.var 1) (.bin .Mod (.var 0) (.var 1)))
  .nil))
def s_divisor_3 : VM.S := (.ret (.var 0))
def b_divisor : Ss := (.cons s_divisor_0 (.cons s_divisor_1 (.cons s_divisor_2 (.cons s_divisor_3 .nil))))
def f_divisor : Fn := ⟨2, 2, false, b_divisor⟩
def s_common_of_0 : VM.S := (.set (.name 1) (.int 0))
def s_common_of_1 : VM.S := (.for_ (.name 2) (.ex (.var 0)) (.cons (.set (.name 1) (.call "divisor" (.cons (.var 1) (.cons (.var 2) .nil))))
  .nil))
def s_common_of_2 : VM.S := (.ret (.var 1))
def b_common_of : Ss := (.cons s_common_of_0 (.cons s_common_of_1 (.cons s_common_of_2 .nil)))
def f_common_of : Fn := ⟨1, 3, false, b_common_of⟩
def s__law_common_0 : VM.S := (.set (.name 1) (.int 0))
def s__law_common_1 : VM.S := (.for_ (.name 2) (.ex (.var 0)) (.cons (.set (.name 3) (.bi "max" (.cons (.var 2) (.cons (.bin .Sub (.int 0) (.var 2)) .nil))))
  (.cons (.while_ (.cmp .Gt (.var 3) (.int 0)) (.cons (.par 1 3 (.var 3) (.bin .Mod (.var 1) (.var 3)))
  .nil))
  .nil)))
def s__law_common_2 : VM.S := (.ret (.var 1))
def b__law_common : Ss := (.cons s__law_common_0 (.cons s__law_common_1 (.cons s__law_common_2 .nil)))
def f__law_common : Fn := ⟨1, 4, false, b__law_common⟩
section
variable {P : Pg} {μ : Sto} {d : D} {n m k b : Nat} {A : Det.Mx} {E : Exc → Sto → Prop} {Q : D × Nat → Sto → Prop}
theorem lch_len {many : Nat} : ∀ {s first : Nat}, (PC.lch many s first).length ≤ many ^ s
  | 0, _ => Nat.le_refl _
  | s + 1, first => by
    show ((List.range' first (many - first)).flatMap fun p => (PC.lch many s (p + 1)).map fun r => p :: r).length ≤ _
    rw [List.length_flatMap, Nat.pow_succ]
    have : ∀ l : List Nat, (l.map fun p => ((PC.lch many s (p + 1)).map fun r => p :: r).length).sum ≤ l.length * many ^ s := by
      intro l
      induction l with
      | nil => simp
      | cons a l ih =>
        rw [List.map_cons, List.sum_cons, List.length_cons, Nat.succ_mul, List.length_map]
        have := lch_len (many := many) (s := s) (first := a + 1)
        omega
    refine Nat.le_trans (this _) ?_
    rw [List.length_range', Nat.mul_comm]
    exact Nat.mul_le_mul_left _ (by omega)
theorem lch_small {many s first : Nat} (h : many ≤ 6) (h2 : s ≤ 6) : (PC.lch many s first).length ≤ 46656 := Nat.le_trans lch_len (Nat.le_trans (Nat.pow_le_pow_left h s) (Nat.le_trans (Nat.pow_le_pow_right (by decide) h2) (by decide)))
def gC (p : Nat) : D → Option D
  | .lst ys => some (.lst (.int (p : Nat) :: ys))
  | _ => none
theorem gC_map {p : Nat} (xs : List (List Nat)) : (xs.map natsD).filterMap (gC p) = (xs.map fun r => p :: r).map natsD := by
  induction xs with
  | nil => rfl
  | cons x xs ih => rw [List.map_cons, List.filterMap_cons, List.map_cons, List.map_cons, ← ih]; rfl
abbrev evH (first many size : Nat) (d : D) (o4 : Option D) : Ev := [some (.int (first : Nat)), some (.int (many : Nat)), some (.int (size : Nat)), some d, o4, none]
theorem law_choices (hp : P.fns "_law_choices" = some f__law_choices) {many : Nat} (hm : many ≤ 6) : ∀ {size first k b : Nat} {μ : Sto} {E : Exc → Sto → Prop} {Q : D × Nat → Sto → Prop}, size ≤ 6 → first ≤ 6 → (∀ f, Q (chD (PC.lch many size first), f) μ) → Wp ((tb P (k + size + 1)).call "_law_choices" b [.int (first : Nat), .int (many : Nat), .int (size : Nat)] μ) Q E
  | 0, first, k, b, μ, E, Q, hs, hf, q => by
    refine (wp_call hp).mpr ((wp_run (by rfl)).mpr ?_)
    unfold b__law_choices s__law_choices_0
    rw [ws_cons]
    simp only [List.map_cons, List.map_nil, List.replicate, List.cons_append, List.nil_append, ws_ife, ws_set, ws_sub, ws_ret_, ws_expr, ws_pass, ws_retn, ws_brk, ws_cnt, x_cmp, x_cmp2, x_ix, x_int, x_bl, x_str, x_non, x_npart, x_bin, x_neg, x_not, x_and, x_or, x_ife, x_lst, x_tup, x_call, x_bi, x_thaw, x_glob, ws_nilE, ws_consE, y_var, List.getElem?_cons_zero, List.getElem?_cons_succ, Option.some.injEq, exists_eq_left', List.set_cons_zero, List.set_cons_succ, c_gt, c_lt, c_le, c_ge, c_eq, c_ne, t_bl, t_int, n_add, n_sub, n_mul, n_mod, n_fdiv, n_pow, n_neg, ix_lst, ix_tup, decide_eq_true_eq, decide_eq_false_iff_not, ws_cons, ws_nil, List.length_nil, List.length_cons]
    refine ⟨fun _ => ⟨by decide, by decide, ?_⟩, fun z => absurd rfl z⟩
    obtain ⟨f', e⟩ := out_ch (N := μ.length) (f := 1) (ν := μ) (d := chD [[]]) (xs := [[]]) (.inl rfl)
    exact ⟨_, e, by rw [List.take_length]; exact q f'⟩
  | s + 1, first, k, b, μ, E, Q, hs, hf, q => by
    refine (wp_call hp).mpr ((wp_run (by rfl)).mpr ?_)
    unfold b__law_choices s__law_choices_0
    rw [ws_cons]
    simp only [List.map_cons, List.map_nil, List.replicate, List.cons_append, List.nil_append, ws_ife, ws_set, ws_sub, ws_ret_, ws_expr, ws_pass, ws_retn, ws_brk, ws_cnt, x_cmp, x_cmp2, x_ix, x_int, x_bl, x_str, x_non, x_npart, x_bin, x_neg, x_not, x_and, x_or, x_ife, x_lst, x_tup, x_call, x_bi, x_thaw, x_glob, ws_nilE, ws_consE, y_var, List.getElem?_cons_zero, List.getElem?_cons_succ, Option.some.injEq, exists_eq_left', List.set_cons_zero, List.set_cons_succ, c_gt, c_lt, c_le, c_ge, c_eq, c_ne, t_bl, t_int, n_add, n_sub, n_mul, n_mod, n_fdiv, n_pow, n_neg, ix_lst, ix_tup, decide_eq_true_eq, decide_eq_false_iff_not, List.length_nil, List.length_cons]
    refine ⟨fun z => absurd z (by omega), fun _ => ?_⟩
    rw [ws_nil, ws_cons]
    unfold s__law_choices_1
    simp only [ws_ife, ws_set, ws_sub, ws_ret_, ws_expr, ws_pass, ws_retn, ws_brk, ws_cnt, x_cmp, x_cmp2, x_ix, x_int, x_bl, x_str, x_non, x_npart, x_bin, x_neg, x_not, x_and, x_or, x_ife, x_lst, x_tup, x_call, x_bi, x_thaw, x_glob, ws_nilE, ws_consE, y_var, List.getElem?_cons_zero, List.getElem?_cons_succ, Option.some.injEq, exists_eq_left', List.set_cons_zero, List.set_cons_succ, c_gt, c_lt, c_le, c_ge, c_eq, c_ne, t_bl, t_int, n_add, n_sub, n_mul, n_mod, n_fdiv, n_pow, n_neg, ix_lst, ix_tup, decide_eq_true_eq, decide_eq_false_iff_not, List.length_nil]
    refine ⟨by decide, ?_⟩
    rw [ws_cons]
    unfold s__law_choices_2
    refine ws_forRange ?_
    simp only [ws_ife, ws_set, ws_sub, ws_ret_, ws_expr, ws_pass, ws_retn, ws_brk, ws_cnt, x_cmp, x_cmp2, x_ix, x_int, x_bl, x_str, x_non, x_npart, x_bin, x_neg, x_not, x_and, x_or, x_ife, x_lst, x_tup, x_call, x_bi, x_thaw, x_glob, ws_nilE, ws_consE, y_var, List.getElem?_cons_zero, List.getElem?_cons_succ, Option.some.injEq, exists_eq_left', List.set_cons_zero, List.set_cons_succ, c_gt, c_lt, c_le, c_ge, c_eq, c_ne, t_bl, t_int, n_add, n_sub, n_mul, n_mod, n_fdiv, n_pow, n_neg, ix_lst, ix_tup, decide_eq_true_eq, decide_eq_false_iff_not, i_r2, VM.D.int.injEq]
    refine ⟨by rw [small_of (by omega) (by omega), small_of (by omega) (by omega)]; rfl, (first : Int), _, fun t ρ' μ' => ∃ o4, ρ' = evH first many (s + 1) (chD ((List.range' first t).flatMap fun p => (PC.lch many s (p + 1)).map fun r => p :: r)) o4 ∧ μ' = μ, rfl, ⟨none, rfl, rfl⟩, fun t ρ' μ' ht hI => ?_, fun ρ' μ' hI => ?_⟩
    · obtain ⟨o4, rfl, rfl⟩ := hI
      rw [show (first : Int) + (t : Nat) = ((first + t : Nat) : Int) by omega]
      rw [ws_cons]
      simp only [evH, ws_ife, ws_set, ws_sub, ws_ret_, ws_expr, ws_pass, ws_retn, ws_brk, ws_cnt, x_cmp, x_cmp2, x_ix, x_int, x_bl, x_str, x_non, x_npart, x_bin, x_neg, x_not, x_and, x_or, x_ife, x_lst, x_tup, x_call, x_bi, x_thaw, x_glob, ws_nilE, ws_consE, y_var, List.getElem?_cons_zero, List.getElem?_cons_succ, Option.some.injEq, exists_eq_left', List.set_cons_zero, List.set_cons_succ, c_gt, c_lt, c_le, c_ge, c_eq, c_ne, t_bl, t_int, n_add, n_sub, n_mul, n_mod, n_fdiv, n_pow, n_neg, ix_lst, ix_tup, decide_eq_true_eq, decide_eq_false_iff_not, x_lc, i_exD]
      rw [show ((first + t : Nat) : Int) + 1 = ((first + t + 1 : Nat) : Int) by omega, show ((s + 1 : Nat) : Int) - 1 = ((s : Nat) : Int) by omega]
      refine law_choices hp hm (k := k) (size := s) (first := first + t + 1) (by omega) (by omega) fun f' => ?_
      refine ⟨.data ((PC.lch many s (first + t + 1)).map natsD), rfl, ?_⟩
      have sz : ∀ first, (PC.lch many s first).length ≤ 46656 := fun first => lch_small hm (by omega)
      refine wp_lcPure (xs := (PC.lch many s (first + t + 1)).map natsD) (gC (first + t)) (fun i => src_data i) rfl (by rw [List.length_map]; exact Nat.le_trans (sz _) (by decide)) (fun x hx => ?_) ?_
      · obtain ⟨r, hr, rfl⟩ := List.mem_map.mp hx
        have hrl := (PC.mem_lch.mp hr).1
        simp only [ws_ife, ws_set, ws_sub, ws_ret_, ws_expr, ws_pass, ws_retn, ws_brk, ws_cnt, x_cmp, x_cmp2, x_ix, x_int, x_bl, x_str, x_non, x_npart, x_bin, x_neg, x_not, x_and, x_or, x_ife, x_lst, x_tup, x_call, x_bi, x_thaw, x_glob, ws_nilE, ws_consE, y_var, List.getElem?_cons_zero, List.getElem?_cons_succ, Option.some.injEq, exists_eq_left', List.set_cons_zero, List.set_cons_succ, c_gt, c_lt, c_le, c_ge, c_eq, c_ne, t_bl, t_int, n_add, n_sub, n_mul, n_mod, n_fdiv, n_pow, n_neg, ix_lst, ix_tup, decide_eq_true_eq, decide_eq_false_iff_not, lc_name, wipe1, Bool.true_eq_false, false_implies, and_true, true_implies, List.length_cons, List.length_nil]
        refine ⟨by decide, ?_⟩
        rw [add_lst (xs := [.int ((first + t : Nat) : Int)]) (ys := r.map fun p => .int (p : Nat)) rfl rfl (by simp; exact size_small (by omega))]
        exact ⟨rfl, rfl⟩
      · rw [gC_map]
        have e1 : (List.range' first (t + 1)).flatMap (fun p => (PC.lch many s (p + 1)).map fun r => p :: r) = ((List.range' first t).flatMap fun p => (PC.lch many s (p + 1)).map fun r => p :: r) ++ ((PC.lch many s (first + t + 1)).map fun r => (first + t) :: r) := by
          rw [List.range'_concat, List.flatMap_append]; simp
        have hz : (((List.range' first t).flatMap fun p => (PC.lch many s (p + 1)).map fun r => p :: r).map natsD).length + (((PC.lch many s (first + t + 1)).map fun r => (first + t) :: r).map natsD).length ≤ sizeLine := by
          rw [List.length_map, List.length_map, ← List.length_append, ← e1]
          have h1 : ((List.range' first (t + 1)).flatMap fun p => (PC.lch many s (p + 1)).map fun r => p :: r).length ≤ (PC.lch many (s + 1) first).length := by
            have e2 : List.range' first (many - first) = List.range' first (t + 1) ++ List.range' (first + (t + 1)) (many - first - (t + 1)) := by
              rw [List.range'_append_1]; congr 1; omega
            show _ ≤ ((List.range' first (many - first)).flatMap fun p => (PC.lch many s (p + 1)).map fun r => p :: r).length
            rw [e2, List.flatMap_append, List.length_append]; omega
          exact Nat.le_trans h1 (Nat.le_trans (lch_small hm hs) (by decide))
        rw [add_lst (xs := ((List.range' first t).flatMap fun p => (PC.lch many s (p + 1)).map fun r => p :: r).map natsD) (ys := ((PC.lch many s (first + t + 1)).map fun r => (first + t) :: r).map natsD) rfl rfl hz, ws_nil]
        rw [e1, ← List.map_append]
        exact ⟨_, rfl, rfl⟩
    · obtain ⟨o4, rfl, rfl⟩ := hI
      rw [show ((many : Int) - (first : Int)).toNat = many - first by omega]
      unfold s__law_choices_3
      simp only [ws_cons, ws_nil, evH, ws_ife, ws_set, ws_sub, ws_ret_, ws_expr, ws_pass, ws_retn, ws_brk, ws_cnt, x_cmp, x_cmp2, x_ix, x_int, x_bl, x_str, x_non, x_npart, x_bin, x_neg, x_not, x_and, x_or, x_ife, x_lst, x_tup, x_call, x_bi, x_thaw, x_glob, ws_nilE, ws_consE, y_var, List.getElem?_cons_zero, List.getElem?_cons_succ, Option.some.injEq, exists_eq_left', List.set_cons_zero, List.set_cons_succ, c_gt, c_lt, c_le, c_ge, c_eq, c_ne, t_bl, t_int, n_add, n_sub, n_mul, n_mod, n_fdiv, n_pow, n_neg, ix_lst, ix_tup, decide_eq_true_eq, decide_eq_false_iff_not]
      obtain ⟨f', e⟩ := out_ch (N := μ'.length) (f := 0) (ν := μ') (d := chD (PC.lch many (s + 1) first)) (.inl rfl)
      exact ⟨_, e, by rw [List.take_length]; exact q f'⟩
/-- the greatest divisor of all -/
def gcdL (r : List Int) : Nat := r.foldl (fun g x => Nat.gcd g x.natAbs) 0
theorem abs_if {i : Int} : (if i < 0 then -i else i) = (i.natAbs : Int) := by omega
theorem divisor (hp : P.fns "divisor" = some f_divisor) (hw : P.wh = wlOf) {i j : Int} (q : Q (.int (Nat.gcd i.natAbs j.natAbs : Nat), 0) μ) : Wp ((tb P (k + 1)).call "divisor" b [.int i, .int j] μ) Q E := by
  refine (wp_call hp).mpr ((wp_run (by rfl)).mpr ?_)
  unfold b_divisor s_divisor_0 s_divisor_1
  rw [ws_cons]
  simp only [List.map_cons, List.map_nil, List.replicate, List.cons_append, List.nil_append, ws_ife, ws_set, ws_sub, ws_ret_, ws_expr, ws_pass, ws_retn, ws_brk, ws_cnt, x_cmp, x_cmp2, x_ix, x_int, x_bl, x_str, x_non, x_npart, x_bin, x_neg, x_not, x_and, x_or, x_ife, x_lst, x_tup, x_call, x_bi, x_thaw, x_glob, ws_nilE, ws_consE, y_var, List.getElem?_cons_zero, List.getElem?_cons_succ, Option.some.injEq, exists_eq_left', List.set_cons_zero, List.set_cons_succ, c_gt, c_lt, c_le, c_ge, c_eq, c_ne, t_bl, t_int, n_add, n_sub, n_mul, n_mod, n_fdiv, n_pow, n_neg, ix_lst, ix_tup, decide_eq_true_eq, decide_eq_false_iff_not, bi_abs]
  rw [ws_cons]
  simp only [ws_ife, ws_set, ws_sub, ws_ret_, ws_expr, ws_pass, ws_retn, ws_brk, ws_cnt, x_cmp, x_cmp2, x_ix, x_int, x_bl, x_str, x_non, x_npart, x_bin, x_neg, x_not, x_and, x_or, x_ife, x_lst, x_tup, x_call, x_bi, x_thaw, x_glob, ws_nilE, ws_consE, y_var, List.getElem?_cons_zero, List.getElem?_cons_succ, Option.some.injEq, exists_eq_left', List.set_cons_zero, List.set_cons_succ, c_gt, c_lt, c_le, c_ge, c_eq, c_ne, t_bl, t_int, n_add, n_sub, n_mul, n_mod, n_fdiv, n_pow, n_neg, ix_lst, ix_tup, decide_eq_true_eq, decide_eq_false_iff_not, bi_abs, abs_if]
  rw [ws_cons]
  unfold s_divisor_2
  refine ws_while (by rw [tb_wh]; exact hw) (fun m ρ' μ' => ∃ a c : Nat, ρ' = [some (.int (a : Nat)), some (.int (c : Nat))] ∧ μ' = μ ∧ c = m ∧ Nat.gcd a c = Nat.gcd i.natAbs j.natAbs) ⟨_, _, rfl, rfl, rfl, rfl⟩ fun m ρ' μ' hI => ?_
  obtain ⟨a, c, rfl, rfl, rfl, hg⟩ := hI
  simp only [ws_ife, ws_set, ws_sub, ws_ret_, ws_expr, ws_pass, ws_retn, ws_brk, ws_cnt, x_cmp, x_cmp2, x_ix, x_int, x_bl, x_str, x_non, x_npart, x_bin, x_neg, x_not, x_and, x_or, x_ife, x_lst, x_tup, x_call, x_bi, x_thaw, x_glob, ws_nilE, ws_consE, y_var, List.getElem?_cons_zero, List.getElem?_cons_succ, Option.some.injEq, exists_eq_left', List.set_cons_zero, List.set_cons_succ, c_gt, c_lt, c_le, c_ge, c_eq, c_ne, t_bl, t_int, n_add, n_sub, n_mul, n_mod, n_fdiv, n_pow, n_neg, ix_lst, ix_tup, decide_eq_true_eq, decide_eq_false_iff_not, ws_cons, ws_nil, ws_par]
  refine ⟨fun h => ⟨by omega, a % c, Nat.mod_lt _ (by omega), c, a % c, ?_, trivial, rfl, ?_⟩, fun h => ?_⟩
  · rw [fmod_nat (by omega)]
  · rw [← hg, Nat.gcd_comm c, ← Nat.gcd_rec, Nat.gcd_comm]
  · have : c = 0 := by omega
    subst this
    rw [Nat.gcd_zero_right] at hg
    unfold s_divisor_3
    simp only [ws_ife, ws_set, ws_sub, ws_ret_, ws_expr, ws_pass, ws_retn, ws_brk, ws_cnt, x_cmp, x_cmp2, x_ix, x_int, x_bl, x_str, x_non, x_npart, x_bin, x_neg, x_not, x_and, x_or, x_ife, x_lst, x_tup, x_call, x_bi, x_thaw, x_glob, ws_nilE, ws_consE, y_var, List.getElem?_cons_zero, List.getElem?_cons_succ, Option.some.injEq, exists_eq_left', List.set_cons_zero, List.set_cons_succ, c_gt, c_lt, c_le, c_ge, c_eq, c_ne, t_bl, t_int, n_add, n_sub, n_mul, n_mod, n_fdiv, n_pow, n_neg, ix_lst, ix_tup, decide_eq_true_eq, decide_eq_false_iff_not, f_int, List.take_length]
    rw [hg]; exact q
theorem common_of (hp : P.fns "common_of" = some f_common_of) (hd : P.fns "divisor" = some f_divisor) (hw : P.wh = wlOf) {r : List Int} (h : itemsL μ d = some (r.map .int)) (q : Q (.int (gcdL r : Nat), 0) μ) : Wp ((tb P (k + 2)).call "common_of" b [d] μ) Q E := by
  refine (wp_call hp).mpr ((wp_run (by rfl)).mpr ?_)
  unfold b_common_of s_common_of_0
  obtain ⟨s1, a1, a2, a3⟩ := src_of h
  have a4 := srcIt_of h a1
  rw [ws_cons]
  simp only [List.map_cons, List.map_nil, List.replicate, List.cons_append, List.nil_append, ws_ife, ws_set, ws_sub, ws_ret_, ws_expr, ws_pass, ws_retn, ws_brk, ws_cnt, x_cmp, x_cmp2, x_ix, x_int, x_bl, x_str, x_non, x_npart, x_bin, x_neg, x_not, x_and, x_or, x_ife, x_lst, x_tup, x_call, x_bi, x_thaw, x_glob, ws_nilE, ws_consE, y_var, List.getElem?_cons_zero, List.getElem?_cons_succ, Option.some.injEq, exists_eq_left', List.set_cons_zero, List.set_cons_succ, c_gt, c_lt, c_le, c_ge, c_eq, c_ne, t_bl, t_int, n_add, n_sub, n_mul, n_mod, n_fdiv, n_pow, n_neg, ix_lst, ix_tup, decide_eq_true_eq, decide_eq_false_iff_not]
  rw [ws_cons]
  unfold s_common_of_1
  refine ws_for ?_
  simp only [i_exD, ws_ife, ws_set, ws_sub, ws_ret_, ws_expr, ws_pass, ws_retn, ws_brk, ws_cnt, x_cmp, x_cmp2, x_ix, x_int, x_bl, x_str, x_non, x_npart, x_bin, x_neg, x_not, x_and, x_or, x_ife, x_lst, x_tup, x_call, x_bi, x_thaw, x_glob, ws_nilE, ws_consE, y_var, List.getElem?_cons_zero, List.getElem?_cons_succ, Option.some.injEq, exists_eq_left', List.set_cons_zero, List.set_cons_succ, c_gt, c_lt, c_le, c_ge, c_eq, c_ne, t_bl, t_int, n_add, n_sub, n_mul, n_mod, n_fdiv, n_pow, n_neg, ix_lst, ix_tup, decide_eq_true_eq, decide_eq_false_iff_not, a4]
  refine ⟨r.map .int, fun t ρ' μ' => ∃ o2, ρ' = [some d, some (.int (gcdL (r.take t) : Nat)), o2] ∧ μ' = μ, fun t ρ' μ' hI => ?_, a3, ⟨none, rfl, rfl⟩, fun t x ρ' μ' hx hI => ?_, fun ρ' μ' hI => ?_⟩
  · obtain ⟨_, _, rfl⟩ := hI
    exact a2 t
  · obtain ⟨o2, rfl, rfl⟩ := hI
    rw [List.getElem?_map] at hx
    obtain ⟨z, hz, rfl⟩ := map_some hx
    simp only [ws_ife, ws_set, ws_sub, ws_ret_, ws_expr, ws_pass, ws_retn, ws_brk, ws_cnt, x_cmp, x_cmp2, x_ix, x_int, x_bl, x_str, x_non, x_npart, x_bin, x_neg, x_not, x_and, x_or, x_ife, x_lst, x_tup, x_call, x_bi, x_thaw, x_glob, ws_nilE, ws_consE, y_var, List.getElem?_cons_zero, List.getElem?_cons_succ, Option.some.injEq, exists_eq_left', List.set_cons_zero, List.set_cons_succ, c_gt, c_lt, c_le, c_ge, c_eq, c_ne, t_bl, t_int, n_add, n_sub, n_mul, n_mod, n_fdiv, n_pow, n_neg, ix_lst, ix_tup, decide_eq_true_eq, decide_eq_false_iff_not, ws_cons, ws_nil]
    refine divisor hd hw ?_
    have e : gcdL (r.take (t + 1)) = Nat.gcd (gcdL (r.take t)) z.natAbs := by
      unfold gcdL; rw [List.take_add_one, hz, List.foldl_append]; rfl
    rw [e]
    exact ⟨_, rfl, rfl⟩
  · obtain ⟨o2, rfl, rfl⟩ := hI
    rw [List.length_map, List.take_length]
    unfold s_common_of_2
    simp only [ws_ife, ws_set, ws_sub, ws_ret_, ws_expr, ws_pass, ws_retn, ws_brk, ws_cnt, x_cmp, x_cmp2, x_ix, x_int, x_bl, x_str, x_non, x_npart, x_bin, x_neg, x_not, x_and, x_or, x_ife, x_lst, x_tup, x_call, x_bi, x_thaw, x_glob, ws_nilE, ws_consE, y_var, List.getElem?_cons_zero, List.getElem?_cons_succ, Option.some.injEq, exists_eq_left', List.set_cons_zero, List.set_cons_succ, c_gt, c_lt, c_le, c_ge, c_eq, c_ne, t_bl, t_int, n_add, n_sub, n_mul, n_mod, n_fdiv, n_pow, n_neg, ix_lst, ix_tup, decide_eq_true_eq, decide_eq_false_iff_not, ws_cons, ws_nil, f_int, List.take_length]
    exact q
theorem bi_max2 {i j : Int} : Wp (biD "max" [.int i, .int j] μ) Q E ↔ Q (.int (if j > i then j else i), 0) μ := wp_ok
theorem max_abs {i : Int} : (if 0 - i > i then 0 - i else i) = (i.natAbs : Int) := by omega
theorem law_common (hp : P.fns "_law_common" = some f__law_common) (hw : P.wh = wlOf) {r : List Int} (h : itemsL μ d = some (r.map .int)) (q : Q (.int (gcdL r : Nat), 0) μ) : Wp ((tb P (k + 1)).call "_law_common" b [d] μ) Q E := by
  refine (wp_call hp).mpr ((wp_run (by rfl)).mpr ?_)
  unfold b__law_common s__law_common_0
  obtain ⟨s1, a1, a2, a3⟩ := src_of h
  have a4 := srcIt_of h a1
  rw [ws_cons]
  simp only [List.map_cons, List.map_nil, List.replicate, List.cons_append, List.nil_append, ws_ife, ws_set, ws_sub, ws_ret_, ws_expr, ws_pass, ws_retn, ws_brk, ws_cnt, x_cmp, x_cmp2, x_ix, x_int, x_bl, x_str, x_non, x_npart, x_bin, x_neg, x_not, x_and, x_or, x_ife, x_lst, x_tup, x_call, x_bi, x_thaw, x_glob, ws_nilE, ws_consE, y_var, List.getElem?_cons_zero, List.getElem?_cons_succ, Option.some.injEq, exists_eq_left', List.set_cons_zero, List.set_cons_succ, c_gt, c_lt, c_le, c_ge, c_eq, c_ne, t_bl, t_int, n_add, n_sub, n_mul, n_mod, n_fdiv, n_pow, n_neg, ix_lst, ix_tup, decide_eq_true_eq, decide_eq_false_iff_not]
  rw [ws_cons]
  unfold s__law_common_1
  refine ws_for ?_
  simp only [i_exD, ws_ife, ws_set, ws_sub, ws_ret_, ws_expr, ws_pass, ws_retn, ws_brk, ws_cnt, x_cmp, x_cmp2, x_ix, x_int, x_bl, x_str, x_non, x_npart, x_bin, x_neg, x_not, x_and, x_or, x_ife, x_lst, x_tup, x_call, x_bi, x_thaw, x_glob, ws_nilE, ws_consE, y_var, List.getElem?_cons_zero, List.getElem?_cons_succ, Option.some.injEq, exists_eq_left', List.set_cons_zero, List.set_cons_succ, c_gt, c_lt, c_le, c_ge, c_eq, c_ne, t_bl, t_int, n_add, n_sub, n_mul, n_mod, n_fdiv, n_pow, n_neg, ix_lst, ix_tup, decide_eq_true_eq, decide_eq_false_iff_not, a4]
  refine ⟨r.map .int, fun t ρ' μ' => ∃ o2 o3, ρ' = [some d, some (.int (gcdL (r.take t) : Nat)), o2, o3] ∧ μ' = μ, fun t ρ' μ' hI => ?_, a3, ⟨none, none, rfl, rfl⟩, fun t x ρ' μ' hx hI => ?_, fun ρ' μ' hI => ?_⟩
  · obtain ⟨_, _, _, rfl⟩ := hI
    exact a2 t
  · obtain ⟨o2, o3, rfl, rfl⟩ := hI
    rw [List.getElem?_map] at hx
    obtain ⟨z, hz, rfl⟩ := map_some hx
    rw [ws_cons]
    simp only [ws_ife, ws_set, ws_sub, ws_ret_, ws_expr, ws_pass, ws_retn, ws_brk, ws_cnt, x_cmp, x_cmp2, x_ix, x_int, x_bl, x_str, x_non, x_npart, x_bin, x_neg, x_not, x_and, x_or, x_ife, x_lst, x_tup, x_call, x_bi, x_thaw, x_glob, ws_nilE, ws_consE, y_var, List.getElem?_cons_zero, List.getElem?_cons_succ, Option.some.injEq, exists_eq_left', List.set_cons_zero, List.set_cons_succ, c_gt, c_lt, c_le, c_ge, c_eq, c_ne, t_bl, t_int, n_add, n_sub, n_mul, n_mod, n_fdiv, n_pow, n_neg, ix_lst, ix_tup, decide_eq_true_eq, decide_eq_false_iff_not, bi_max2, max_abs]
    rw [ws_cons]
    have e : gcdL (r.take (t + 1)) = Nat.gcd (gcdL (r.take t)) z.natAbs := by
      unfold gcdL; rw [List.take_add_one, hz, List.foldl_append]; rfl
    refine ws_while (by rw [tb_wh]; exact hw) (fun m ρ' ν => ∃ a c : Nat, ρ' = [some d, some (.int (a : Nat)), some (.int z), some (.int (c : Nat))] ∧ ν = μ' ∧ c = m ∧ Nat.gcd a c = gcdL (r.take (t + 1))) ⟨_, _, rfl, rfl, rfl, e.symm⟩ fun m ρ' ν hI => ?_
    obtain ⟨a, c, rfl, rfl, rfl, hg⟩ := hI
    simp only [ws_ife, ws_set, ws_sub, ws_ret_, ws_expr, ws_pass, ws_retn, ws_brk, ws_cnt, x_cmp, x_cmp2, x_ix, x_int, x_bl, x_str, x_non, x_npart, x_bin, x_neg, x_not, x_and, x_or, x_ife, x_lst, x_tup, x_call, x_bi, x_thaw, x_glob, ws_nilE, ws_consE, y_var, List.getElem?_cons_zero, List.getElem?_cons_succ, Option.some.injEq, exists_eq_left', List.set_cons_zero, List.set_cons_succ, c_gt, c_lt, c_le, c_ge, c_eq, c_ne, t_bl, t_int, n_add, n_sub, n_mul, n_mod, n_fdiv, n_pow, n_neg, ix_lst, ix_tup, decide_eq_true_eq, decide_eq_false_iff_not, ws_cons, ws_nil, ws_par]
    refine ⟨fun h => ⟨by omega, a % c, Nat.mod_lt _ (by omega), c, a % c, ?_, trivial, rfl, ?_⟩, fun h => ?_⟩
    · rw [fmod_nat (by omega)]
    · rw [← hg, Nat.gcd_comm c, ← Nat.gcd_rec, Nat.gcd_comm]
    · have : c = 0 := by omega
      subst this
      rw [Nat.gcd_zero_right] at hg
      rw [← hg]
      exact ⟨_, _, rfl, trivial⟩
  · obtain ⟨o2, o3, rfl, rfl⟩ := hI
    rw [List.length_map, List.take_length]
    unfold s__law_common_2
    simp only [ws_ife, ws_set, ws_sub, ws_ret_, ws_expr, ws_pass, ws_retn, ws_brk, ws_cnt, x_cmp, x_cmp2, x_ix, x_int, x_bl, x_str, x_non, x_npart, x_bin, x_neg, x_not, x_and, x_or, x_ife, x_lst, x_tup, x_call, x_bi, x_thaw, x_glob, ws_nilE, ws_consE, y_var, List.getElem?_cons_zero, List.getElem?_cons_succ, Option.some.injEq, exists_eq_left', List.set_cons_zero, List.set_cons_succ, c_gt, c_lt, c_le, c_ge, c_eq, c_ne, t_bl, t_int, n_add, n_sub, n_mul, n_mod, n_fdiv, n_pow, n_neg, ix_lst, ix_tup, decide_eq_true_eq, decide_eq_false_iff_not, ws_cons, ws_nil, f_int, List.take_length]
    exact q
end
end VM

set_option Elab.async false
set_option maxRecDepth 10000
set_option autoImplicit false
set_option linter.unusedVariables false
set_option linter.unusedSimpArgs false
/-! parts, common_part -/
namespace VM
open PySem L2
def s_parts_0 : VM.S := (.expr (.call "need_few" (.cons (.var 0) .nil)))
def s_parts_1 : VM.S := (.set (.name 1) (.thaw (.lst .nil)))
def s_parts_2 : VM.S := (.for_ (.name 2) (.ex (.call "choices" (.cons (.bi "len" (.cons (.ix (.var 0) (.int 0)) .nil)) (.cons (.bi "len" (.cons (.var 0) .nil)) .nil)))) (.cons (.expr (.bm (.var 1) "append" (.cons (.call "worth_in" (.cons (.lc (.lc (.ix (.var 3) (.var 4)) (.name 4) (.ex (.var 2)) (.bl true) [4]) (.name 3) (.ex (.var 0)) (.bl true) [3]) .nil)) .nil)))
  .nil))
def s_parts_3 : VM.S := (.ret (.var 1))
def b_parts : Ss := (.cons s_parts_0 (.cons s_parts_1 (.cons s_parts_2 (.cons s_parts_3 .nil))))
def f_parts : Fn := ⟨1, 5, false, b_parts⟩
def s_common_part_0 : VM.S := (.ret (.call "common_of" (.cons (.call "parts" (.cons (.var 0) .nil)) .nil)))
def b_common_part : Ss := (.cons s_common_part_0 .nil)
def f_common_part : Fn := ⟨1, 1, false, b_common_part⟩
def s__law_parts_0 : VM.S := (.set (.name 1) (.thaw (.lst .nil)))
def s__law_parts_1 : VM.S := (.for_ (.name 2) (.ex (.call "_law_choices" (.cons (.int 0) (.cons (.bi "len" (.cons (.ix (.var 0) (.int 0)) .nil)) (.cons (.bi "len" (.cons (.var 0) .nil)) .nil))))) (.cons (.expr (.bm (.var 1) "append" (.cons (.call "_law_worth" (.cons (.lc (.lc (.ix (.var 3) (.var 4)) (.name 4) (.ex (.var 2)) (.bl true) [4]) (.name 3) (.ex (.var 0)) (.bl true) [3]) .nil)) .nil)))
  .nil))
def s__law_parts_2 : VM.S := (.ret (.var 1))
def b__law_parts : Ss := (.cons s__law_parts_0 (.cons s__law_parts_1 (.cons s__law_parts_2 .nil)))
def f__law_parts : Fn := ⟨1, 5, false, b__law_parts⟩
/-- the chosen places -/
def sel (A : Det.Mx) (r : List Nat) : Det.Mx := fun i j => A i (r.getD j 0)
def partsL (n m : Nat) (A : Det.Mx) : List Int := (PC.lch m n 0).map fun r => Det.det n (sel A r)
section
variable {P : Pg} {μ : Sto} {d : D} {n m k b : Nat} {A : Det.Mx} {B : Nat} {E : Exc → Sto → Prop} {Q : D × Nat → Sto → Prop}
theorem nats_gen {r : List Nat} (h : r.length = n) : (r.map fun p => D.int (p : Nat)) = genL n fun j => .int ((r.getD j 0 : Nat) : Int) :=
  genL_ext (by rw [List.length_map, h]) fun i hi => by
    rw [List.getElem?_map, List.getElem?_eq_getElem (by omega), List.getD_eq_getElem?_getD, List.getElem?_eq_getElem (by omega)]; rfl
theorem out_ints {N f c : Nat} {ν : Sto} {r : List Int} (hc : N ≤ c) (h : ν[c]? = some (.lst (r.map .int))) : frzTop N (.cell c) f ν = some (.lst (r.map .int), 9) := by
  have f1 : frz N ν 10 (.cell c) = some (.lst (r.map .int)) := by
    show (if c < N then some (D.cell c) else match ν[c]? with | some (.lst xs) => (xs.mapM (frz N ν 9)).map D.lst | _ => none) = _
    rw [if_neg (by omega), h]
    show ((r.map D.int).mapM (frz N ν 9)).map D.lst = _
    rw [mapM_of (g := id) (fun x hx => by obtain ⟨j, _, rfl⟩ := List.mem_map.mp hx; rfl), List.map_id]; rfl
  have f2 : ids N ν 10 (.cell c) = [c] := by
    show (if c < N then [] else match ν[c]? with | some (.lst xs) => c :: xs.flatMap (ids N ν 9) | _ => []) = _
    rw [if_neg (by omega), h]
    show c :: (r.map D.int).flatMap (ids N ν 9) = _
    congr 1
    exact List.flatMap_eq_nil_iff.mpr fun x hx => by obtain ⟨j, _, rfl⟩ := List.mem_map.mp hx; rfl
  have f3 : dep N ν 10 (.cell c) = 9 := by
    show (if c < N then 9 else match ν[c]? with | some (.lst xs) => (xs.map (dep N ν 9)).foldr min 8 + 1 | _ => 0) = _
    rw [if_neg (by omega), h]
    show ((r.map D.int).map (dep N ν 9)).foldr min 8 + 1 = 9
    rw [foldr_min (x := 9) (by decide)]
    intro y hy
    obtain ⟨x, hx, rfl⟩ := List.mem_map.mp hy
    obtain ⟨i, hi, rfl⟩ := List.mem_map.mp hx
    rfl
  show (if c < N then some (D.cell c, 0) else (frz N ν 10 (.cell c)).map fun d' => (d', ownF N (.cell c) ν)) = _
  rw [if_neg (by omega), f1]
  unfold ownF
  rw [f2, if_pos (by simp), f3]; rfl
/-- [[row[place] for place in some] for row in rows] -/
theorem wp_sel {T : Tb} {ρ : Ev} {r : List Nat} {src : Src} {Q : List D → Sto → Prop} (t : TA μ d n m A) (hr : r.length = n) (hp : ∀ p ∈ r, p < m) (hn : n ≤ 400) (hs : srcIt μ d = some src) (h2 : ρ[2]? = some (some (natsD r))) (hl : ρ.length = 5) (q : Q (genL n fun i => .lst (rowL n (sel A r i))) μ) :
    Wp (lcLoop (lcF T b (.lc (.ix (.var 3) (.var 4)) (.name 4) (.ex (.var 2)) (.bl true) [4]) (.name 3) (.bl true) [3] ρ) src (src.size μ + 1) 0 [] μ) Q E := by
  obtain ⟨g, g1, g2⟩ := t.gen
  obtain ⟨s, c1, c2, c3⟩ := src_of g1
  have := srcIt_of g1 c1
  rw [hs] at this; cases this
  refine wp_lcGen (n := n) (g := g) (h := fun i => .lst (rowL n (sel A r i))) c2 c3 (size_small (by omega)) (fun i hi => ?_) q
  have v2 : ∀ w : D, ((wipeD ρ [3]).set 3 (some w))[2]? = some (some (natsD r)) := fun w => by rw [wipe1, List.set_set, List.getElem?_set_ne (by decide)]; exact h2
  have c4 : srcIt μ (natsD r) = some (.data (genL n fun j => .int ((r.getD j 0 : Nat) : Int))) := by rw [← nats_gen hr]; rfl
  simp only [ws_ife, ws_set, ws_sub, ws_ret_, ws_expr, ws_pass, ws_retn, ws_brk, ws_cnt, x_cmp, x_cmp2, x_ix, x_int, x_bl, x_str, x_non, x_npart, x_bin, x_neg, x_not, x_and, x_or, x_ife, x_lst, x_tup, x_call, x_bi, x_thaw, x_glob, ws_nilE, ws_consE, y_var, List.getElem?_cons_zero, List.getElem?_cons_succ, Option.some.injEq, exists_eq_left', List.set_cons_zero, List.set_cons_succ, c_gt, c_lt, c_le, c_ge, c_eq, c_ne, t_bl, t_int, n_add, n_sub, n_mul, n_mod, n_fdiv, n_pow, n_neg, ix_lst, ix_tup, decide_eq_true_eq, decide_eq_false_iff_not, lc_name, Bool.true_eq_false, false_implies, and_true, true_implies, x_lc, i_exD, v2, c4]
  refine wp_lcGen (n := n) (g := fun j => .int ((r.getD j 0 : Nat) : Int)) (h := fun j => .int (sel A r i j)) (fun j => src_data j) rfl (size_small (by omega)) (fun j hj => ?_) ⟨rfl, rfl⟩
  have v3 : ∀ v w : D, ((wipeD ((wipeD ρ [3]).set 3 (some v)) [4]).set 4 (some w))[3]? = some (some v) := fun v w => by rw [wipe1, List.set_set, List.getElem?_set_ne (by decide), wipe1, List.set_set]; exact List.getElem?_set_self (by simp [hl])
  have v4 : ∀ v w : D, ((wipeD ((wipeD ρ [3]).set 3 (some v)) [4]).set 4 (some w))[4]? = some (some w) := fun v w => by rw [wipe1, List.set_set]; exact List.getElem?_set_self (by simp [wipe1, hl])
  have hpm : r.getD j 0 < m := by
    rw [List.getD_eq_getElem?_getD, List.getElem?_eq_getElem (by omega)]
    exact hp _ (List.getElem_mem _)
  have r1 := ix_of (i := ((r.getD j 0 : Nat) : Int)) (g2 i hi)
  rw [genL_atI (by omega) (by omega), Int.toNat_natCast] at r1
  simp only [ws_ife, ws_set, ws_sub, ws_ret_, ws_expr, ws_pass, ws_retn, ws_brk, ws_cnt, x_cmp, x_cmp2, x_ix, x_int, x_bl, x_str, x_non, x_npart, x_bin, x_neg, x_not, x_and, x_or, x_ife, x_lst, x_tup, x_call, x_bi, x_thaw, x_glob, ws_nilE, ws_consE, y_var, List.getElem?_cons_zero, List.getElem?_cons_succ, Option.some.injEq, exists_eq_left', List.set_cons_zero, List.set_cons_succ, c_gt, c_lt, c_le, c_ge, c_eq, c_ne, t_bl, t_int, n_add, n_sub, n_mul, n_mod, n_fdiv, n_pow, n_neg, ix_lst, ix_tup, decide_eq_true_eq, decide_eq_false_iff_not, lc_name, Bool.true_eq_false, false_implies, and_true, true_implies, v3, v4, r1]
  exact ⟨trivial, rfl⟩
theorem lch_ok {r : List Nat} (h : r ∈ PC.lch m n 0) : r.length = n ∧ ∀ p ∈ r, p < m := by
  obtain ⟨h1, h2⟩ := PC.mem_lch.mp h
  exact ⟨h1, fun p hp => (PC.inc_lt h2 p hp).2⟩
theorem sel_le {r : List Nat} (hA : ∀ i j, i < n → j < m → (A i j).natAbs ≤ 2 ^ B) (h1 : r.length = n) (h2 : ∀ p ∈ r, p < m) : ∀ i j, i < n → j < n → (sel A r i j).natAbs ≤ 2 ^ B := fun i j hi hj => by
  refine hA i _ hi ?_
  rw [List.getD_eq_getElem?_getD, List.getElem?_eq_getElem (by omega)]
  exact h2 _ (List.getElem_mem _)
abbrev evP (d : D) (c : Nat) (o2 o3 o4 : Option D) : Ev := [some d, some (.cell c), o2, o3, o4]
theorem parts (hp : P.fns "parts" = some f_parts) (hf : P.fns "need_few" = some f_need_few) (hc : P.fns "choices" = some f_choices) (hw : P.fns "worth_in" = some f_worth_in) (t : TA μ d n m A) (hn1 : 1 ≤ n) (hm : m ≤ 6) (hA : ∀ i j, i < n → j < m → (A i j).natAbs ≤ 2 ^ B) (hB : n * (B + n) < 60000000)
    (e1 : m < n → E ⟨"NoMatch", none⟩ μ) (q : n ≤ m → Q (.lst ((partsL n m A).map .int), 9) μ) : Wp ((tb P (k + 2)).call "parts" b [d] μ) Q E := by
  refine (wp_call hp).mpr ((wp_run (by rfl)).mpr ?_)
  unfold b_parts s_parts_0
  rw [ws_cons]
  simp only [List.map_cons, List.map_nil, List.replicate, List.cons_append, List.nil_append, ws_ife, ws_set, ws_sub, ws_ret_, ws_expr, ws_pass, ws_retn, ws_brk, ws_cnt, x_cmp, x_cmp2, x_ix, x_int, x_bl, x_str, x_non, x_npart, x_bin, x_neg, x_not, x_and, x_or, x_ife, x_lst, x_tup, x_call, x_bi, x_thaw, x_glob, ws_nilE, ws_consE, y_var, List.getElem?_cons_zero, List.getElem?_cons_succ, Option.some.injEq, exists_eq_left', List.set_cons_zero, List.set_cons_succ, c_gt, c_lt, c_le, c_ge, c_eq, c_ne, t_bl, t_int, n_add, n_sub, n_mul, n_mod, n_fdiv, n_pow, n_neg, ix_lst, ix_tup, decide_eq_true_eq, decide_eq_false_iff_not]
  refine need_few hf t hn1 (fun hnm => ?_) fun h => by rw [List.take_length]; exact e1 h
  rw [ws_cons]
  unfold s_parts_1
  simp only [ws_ife, ws_set, ws_sub, ws_ret_, ws_expr, ws_pass, ws_retn, ws_brk, ws_cnt, x_cmp, x_cmp2, x_ix, x_int, x_bl, x_str, x_non, x_npart, x_bin, x_neg, x_not, x_and, x_or, x_ife, x_lst, x_tup, x_call, x_bi, x_thaw, x_glob, ws_nilE, ws_consE, y_var, List.getElem?_cons_zero, List.getElem?_cons_succ, Option.some.injEq, exists_eq_left', List.set_cons_zero, List.set_cons_succ, c_gt, c_lt, c_le, c_ge, c_eq, c_ne, t_bl, t_int, n_add, n_sub, n_mul, n_mod, n_fdiv, n_pow, n_neg, ix_lst, ix_tup, decide_eq_true_eq, decide_eq_false_iff_not, List.length_nil, Prod.mk.injEq, VM.D.lst.injEq]
  refine ⟨by decide, [], 0, ⟨rfl, rfl⟩, ?_⟩
  rw [ws_cons]
  have ext0 : ∀ ν : Sto, (∀ k, k < μ.length → ν[k]? = μ[k]?) → TA ν d n m A := fun ν h => t.ext fun k c hk => by rw [h k (List.getElem?_eq_some_iff.mp hk).1]; exact hk
  have t1 := ext0 (μ ++ [C.lst []]) fun k hk => List.getElem?_append_left hk
  obtain ⟨y, r1, r2⟩ := t1.row (i := 0) (by decide) (by omega)
  unfold s_parts_2
  refine ws_for ?_
  simp only [i_exD, ws_ife, ws_set, ws_sub, ws_ret_, ws_expr, ws_pass, ws_retn, ws_brk, ws_cnt, x_cmp, x_cmp2, x_ix, x_int, x_bl, x_str, x_non, x_npart, x_bin, x_neg, x_not, x_and, x_or, x_ife, x_lst, x_tup, x_call, x_bi, x_thaw, x_glob, ws_nilE, ws_consE, y_var, List.getElem?_cons_zero, List.getElem?_cons_succ, Option.some.injEq, exists_eq_left', List.set_cons_zero, List.set_cons_succ, c_gt, c_lt, c_le, c_ge, c_eq, c_ne, t_bl, t_int, n_add, n_sub, n_mul, n_mod, n_fdiv, n_pow, n_neg, ix_lst, ix_tup, decide_eq_true_eq, decide_eq_false_iff_not, r1, bi_len r2, genL_len, t1.blen]
  refine choices hc hm (by omega) fun f' => ?_
  refine ⟨_, rfl, (PC.ch m n).map natsD, fun i ρ' ν => ∃ o2 o3 o4, ρ' = evP d μ.length o2 o3 o4 ∧ ν.length = μ.length + 1 ∧ (∀ k, k < μ.length → ν[k]? = μ[k]?) ∧ ν[μ.length]? = some (.lst ((((PC.ch m n).take i).map fun r => Det.det n (sel A r)).map .int)), fun i ρ' ν _ => src_data i, rfl, ⟨none, none, none, rfl, by simp, fun k hk => List.getElem?_append_left hk, by rw [List.getElem?_append_right (Nat.le_refl _), Nat.sub_self]; rfl⟩, fun i x ρ' ν hx hJ => ?_, fun ρ' ν hJ => ?_⟩
  · obtain ⟨o2, o3, o4, rfl, hl, hk, hcell⟩ := hJ
    rw [List.getElem?_map] at hx
    obtain ⟨r, hr, rfl⟩ := map_some hx
    have hrm : r ∈ PC.lch m n 0 := by rw [← PC.ch_lch]; exact List.mem_of_getElem? hr
    obtain ⟨g1, g2⟩ := lch_ok hrm
    have tν := ext0 ν hk
    obtain ⟨ds, w1, w2⟩ := tν.len
    obtain ⟨s, s1, s2, s3⟩ := src_of w1
    have s4 := srcIt_of w1 s1
    rw [ws_cons]
    simp only [evP, ws_ife, ws_set, ws_sub, ws_ret_, ws_expr, ws_pass, ws_retn, ws_brk, ws_cnt, x_cmp, x_cmp2, x_ix, x_int, x_bl, x_str, x_non, x_npart, x_bin, x_neg, x_not, x_and, x_or, x_ife, x_lst, x_tup, x_call, x_bi, x_thaw, x_glob, ws_nilE, ws_consE, y_var, List.getElem?_cons_zero, List.getElem?_cons_succ, Option.some.injEq, exists_eq_left', List.set_cons_zero, List.set_cons_succ, c_gt, c_lt, c_le, c_ge, c_eq, c_ne, t_bl, t_int, n_add, n_sub, n_mul, n_mod, n_fdiv, n_pow, n_neg, ix_lst, ix_tup, decide_eq_true_eq, decide_eq_false_iff_not, x_bm, items_cell hcell, x_lc, i_exD, s4]
    refine wp_sel (b := μ.length) tν g1 g2 (by omega) s4 rfl rfl ?_
    refine worth_in (B := B) hw TA.of hn1 (by omega) (sel_le hA g1 g2) hB ?_
    have hz : ((((PC.ch m n).take i).map fun r => Det.det n (sel A r)).map D.int).length < sizeLine := by
      rw [List.length_map, List.length_map]
      have h2 : (PC.ch m n).length ≤ 46656 := ch_small hm (by omega)
      refine Nat.lt_of_le_of_lt (List.length_take_le' _ _) (Nat.lt_of_le_of_lt h2 (by decide))
    rw [append_at hcell hz (put_own (Nat.le_refl _)), ws_nil]
    refine ⟨_, _, _, rfl, by rw [List.length_set]; exact hl, fun k hk' => by rw [List.getElem?_set_ne (by omega)]; exact hk k hk', ?_⟩
    rw [List.getElem?_set_self (by omega), List.take_add_one, hr]
    simp
  · obtain ⟨o2, o3, o4, rfl, hl, hk, hcell⟩ := hJ
    rw [List.length_map, List.take_length, PC.ch_lch] at hcell
    unfold s_parts_3
    simp only [ws_cons, ws_nil, evP, ws_ife, ws_set, ws_sub, ws_ret_, ws_expr, ws_pass, ws_retn, ws_brk, ws_cnt, x_cmp, x_cmp2, x_ix, x_int, x_bl, x_str, x_non, x_npart, x_bin, x_neg, x_not, x_and, x_or, x_ife, x_lst, x_tup, x_call, x_bi, x_thaw, x_glob, ws_nilE, ws_consE, y_var, List.getElem?_cons_zero, List.getElem?_cons_succ, Option.some.injEq, exists_eq_left', List.set_cons_zero, List.set_cons_succ, c_gt, c_lt, c_le, c_ge, c_eq, c_ne, t_bl, t_int, n_add, n_sub, n_mul, n_mod, n_fdiv, n_pow, n_neg, ix_lst, ix_tup, decide_eq_true_eq, decide_eq_false_iff_not]
    refine ⟨_, out_ints (Nat.le_refl _) hcell, ?_⟩
    have : ν.take μ.length = μ := by
      refine List.ext_getElem? fun k => ?_
      rw [List.getElem?_take]
      split
      · exact hk k ‹_›
      · rw [List.getElem?_eq_none (by omega)]
    rw [this]; exact q hnm
theorem common_part (hcp : P.fns "common_part" = some f_common_part) (hco : P.fns "common_of" = some f_common_of) (hdv : P.fns "divisor" = some f_divisor) (hwl : P.wh = wlOf) (hp : P.fns "parts" = some f_parts) (hf : P.fns "need_few" = some f_need_few) (hc : P.fns "choices" = some f_choices) (hw : P.fns "worth_in" = some f_worth_in) (t : TA μ d n m A) (hn1 : 1 ≤ n) (hm : m ≤ 6) (hA : ∀ i j, i < n → j < m → (A i j).natAbs ≤ 2 ^ B) (hB : n * (B + n) < 60000000)
    (e1 : m < n → E ⟨"NoMatch", none⟩ μ) (q : n ≤ m → Q (.int (gcdL (partsL n m A) : Nat), 0) μ) : Wp ((tb P (k + 3)).call "common_part" b [d] μ) Q E := by
  refine (wp_call hcp).mpr ((wp_run (by rfl)).mpr ?_)
  unfold b_common_part s_common_part_0
  simp only [List.map_cons, List.map_nil, List.replicate, List.cons_append, List.nil_append, ws_ife, ws_set, ws_sub, ws_ret_, ws_expr, ws_pass, ws_retn, ws_brk, ws_cnt, x_cmp, x_cmp2, x_ix, x_int, x_bl, x_str, x_non, x_npart, x_bin, x_neg, x_not, x_and, x_or, x_ife, x_lst, x_tup, x_call, x_bi, x_thaw, x_glob, ws_nilE, ws_consE, y_var, List.getElem?_cons_zero, List.getElem?_cons_succ, Option.some.injEq, exists_eq_left', List.set_cons_zero, List.set_cons_succ, c_gt, c_lt, c_le, c_ge, c_eq, c_ne, t_bl, t_int, n_add, n_sub, n_mul, n_mod, n_fdiv, n_pow, n_neg, ix_lst, ix_tup, decide_eq_true_eq, decide_eq_false_iff_not, ws_cons, ws_nil]
  refine parts (B := B) hp hf hc hw t hn1 hm hA hB (fun h => by rw [List.take_length]; exact e1 h) fun h => ?_
  refine common_of hco hdv hwl (r := partsL n m A) rfl ?_
  simp only [f_int, List.take_length]
  exact ⟨_, rfl, q h⟩
theorem law_parts (hp : P.fns "_law_parts" = some f__law_parts) (hc : P.fns "_law_choices" = some f__law_choices) (hw : P.fns "_law_worth" = some f__law_worth) (t : TA μ d n m A) (hn1 : 1 ≤ n) (hn6 : n ≤ 6) (hm : m ≤ 6) (hA : ∀ i j, i < n → j < m → (A i j).natAbs ≤ 2 ^ B) (hB : n * (B + n) < 60000000)
    (q : Q (.lst ((partsL n m A).map .int), 9) μ) : Wp ((tb P (k + n + 2)).call "_law_parts" b [d] μ) Q E := by
  refine (wp_call hp).mpr ((wp_run (by rfl)).mpr ?_)
  unfold b__law_parts s__law_parts_0
  rw [ws_cons]
  simp only [List.map_cons, List.map_nil, List.replicate, List.cons_append, List.nil_append, ws_ife, ws_set, ws_sub, ws_ret_, ws_expr, ws_pass, ws_retn, ws_brk, ws_cnt, x_cmp, x_cmp2, x_ix, x_int, x_bl, x_str, x_non, x_npart, x_bin, x_neg, x_not, x_and, x_or, x_ife, x_lst, x_tup, x_call, x_bi, x_thaw, x_glob, ws_nilE, ws_consE, y_var, List.getElem?_cons_zero, List.getElem?_cons_succ, Option.some.injEq, exists_eq_left', List.set_cons_zero, List.set_cons_succ, c_gt, c_lt, c_le, c_ge, c_eq, c_ne, t_bl, t_int, n_add, n_sub, n_mul, n_mod, n_fdiv, n_pow, n_neg, ix_lst, ix_tup, decide_eq_true_eq, decide_eq_false_iff_not, List.length_nil, Prod.mk.injEq, VM.D.lst.injEq]
  refine ⟨by decide, [], 0, ⟨rfl, rfl⟩, ?_⟩
  rw [ws_cons]
  have ext0 : ∀ ν : Sto, (∀ k, k < μ.length → ν[k]? = μ[k]?) → TA ν d n m A := fun ν h => t.ext fun k c hk => by rw [h k (List.getElem?_eq_some_iff.mp hk).1]; exact hk
  have t1 := ext0 (μ ++ [C.lst []]) fun k hk => List.getElem?_append_left hk
  obtain ⟨y, r1, r2⟩ := t1.row (i := 0) (by decide) (by omega)
  unfold s__law_parts_1
  refine ws_for ?_
  simp only [i_exD, ws_ife, ws_set, ws_sub, ws_ret_, ws_expr, ws_pass, ws_retn, ws_brk, ws_cnt, x_cmp, x_cmp2, x_ix, x_int, x_bl, x_str, x_non, x_npart, x_bin, x_neg, x_not, x_and, x_or, x_ife, x_lst, x_tup, x_call, x_bi, x_thaw, x_glob, ws_nilE, ws_consE, y_var, List.getElem?_cons_zero, List.getElem?_cons_succ, Option.some.injEq, exists_eq_left', List.set_cons_zero, List.set_cons_succ, c_gt, c_lt, c_le, c_ge, c_eq, c_ne, t_bl, t_int, n_add, n_sub, n_mul, n_mod, n_fdiv, n_pow, n_neg, ix_lst, ix_tup, decide_eq_true_eq, decide_eq_false_iff_not, r1, bi_len r2, genL_len, t1.blen]
  refine law_choices hc hm (k := k) (size := n) (first := 0) hn6 (by decide) fun f' => ?_
  refine ⟨_, rfl, (PC.lch m n 0).map natsD, fun i ρ' ν => ∃ o2 o3 o4, ρ' = evP d μ.length o2 o3 o4 ∧ ν.length = μ.length + 1 ∧ (∀ k, k < μ.length → ν[k]? = μ[k]?) ∧ ν[μ.length]? = some (.lst ((((PC.lch m n 0).take i).map fun r => Det.det n (sel A r)).map .int)), fun i ρ' ν _ => src_data i, rfl, ⟨none, none, none, rfl, by simp, fun k hk => List.getElem?_append_left hk, by rw [List.getElem?_append_right (Nat.le_refl _), Nat.sub_self]; rfl⟩, fun i x ρ' ν hx hJ => ?_, fun ρ' ν hJ => ?_⟩
  · obtain ⟨o2, o3, o4, rfl, hl, hk, hcell⟩ := hJ
    rw [List.getElem?_map] at hx
    obtain ⟨r, hr, rfl⟩ := map_some hx
    obtain ⟨g1, g2⟩ := lch_ok (List.mem_of_getElem? hr)
    have tν := ext0 ν hk
    obtain ⟨ds, w1, w2⟩ := tν.len
    obtain ⟨s, s1, s2, s3⟩ := src_of w1
    have s4 := srcIt_of w1 s1
    rw [ws_cons]
    simp only [evP, ws_ife, ws_set, ws_sub, ws_ret_, ws_expr, ws_pass, ws_retn, ws_brk, ws_cnt, x_cmp, x_cmp2, x_ix, x_int, x_bl, x_str, x_non, x_npart, x_bin, x_neg, x_not, x_and, x_or, x_ife, x_lst, x_tup, x_call, x_bi, x_thaw, x_glob, ws_nilE, ws_consE, y_var, List.getElem?_cons_zero, List.getElem?_cons_succ, Option.some.injEq, exists_eq_left', List.set_cons_zero, List.set_cons_succ, c_gt, c_lt, c_le, c_ge, c_eq, c_ne, t_bl, t_int, n_add, n_sub, n_mul, n_mod, n_fdiv, n_pow, n_neg, ix_lst, ix_tup, decide_eq_true_eq, decide_eq_false_iff_not, x_bm, items_cell hcell, x_lc, i_exD, s4]
    refine wp_sel (b := μ.length) tν g1 g2 (by omega) s4 rfl rfl ?_
    have lw : ∀ (Q : D × Nat → Sto → Prop) (E : Exc → Sto → Prop), Q (.int (Det.det n (sel A r)), 0) ν → Wp ((tb P (k + n + 1)).call "_law_worth" μ.length [tabD n n (sel A r)] ν) Q E := fun Q E q => by
      have := law_worth (B := B) hw (k := k + 1) (b := μ.length) (μ := ν) (E := E) (Q := Q) TA.of hn1 (by omega) (sel_le hA g1 g2) hB q
      rw [show k + 1 + n = k + n + 1 by omega] at this; exact this
    refine lw _ _ ?_
    have hz : ((((PC.lch m n 0).take i).map fun r => Det.det n (sel A r)).map D.int).length < sizeLine := by
      rw [List.length_map, List.length_map]
      have h2 : (PC.lch m n 0).length ≤ 46656 := lch_small hm hn6
      refine Nat.lt_of_le_of_lt (List.length_take_le' _ _) (Nat.lt_of_le_of_lt h2 (by decide))
    rw [append_at hcell hz (put_own (Nat.le_refl _)), ws_nil]
    refine ⟨_, _, _, rfl, by rw [List.length_set]; exact hl, fun k hk' => by rw [List.getElem?_set_ne (by omega)]; exact hk k hk', ?_⟩
    rw [List.getElem?_set_self (by omega), List.take_add_one, hr]
    simp
  · obtain ⟨o2, o3, o4, rfl, hl, hk, hcell⟩ := hJ
    rw [List.length_map, List.take_length] at hcell
    unfold s__law_parts_2
    simp only [ws_cons, ws_nil, evP, ws_ife, ws_set, ws_sub, ws_ret_, ws_expr, ws_pass, ws_retn, ws_brk, ws_cnt, x_cmp, x_cmp2, x_ix, x_int, x_bl, x_str, x_non, x_npart, x_bin, x_neg, x_not, x_and, x_or, x_ife, x_lst, x_tup, x_call, x_bi, x_thaw, x_glob, ws_nilE, ws_consE, y_var, List.getElem?_cons_zero, List.getElem?_cons_succ, Option.some.injEq, exists_eq_left', List.set_cons_zero, List.set_cons_succ, c_gt, c_lt, c_le, c_ge, c_eq, c_ne, t_bl, t_int, n_add, n_sub, n_mul, n_mod, n_fdiv, n_pow, n_neg, ix_lst, ix_tup, decide_eq_true_eq, decide_eq_false_iff_not]
    refine ⟨_, out_ints (Nat.le_refl _) hcell, ?_⟩
    have : ν.take μ.length = μ := by
      refine List.ext_getElem? fun k => ?_
      rw [List.getElem?_take]
      split
      · exact hk k ‹_›
      · rw [List.getElem?_eq_none (by omega)]
    rw [this]; exact q
end
end VM

set_option Elab.async false
set_option maxRecDepth 10000
set_option autoImplicit false
set_option linter.unusedVariables false
set_option linter.unusedSimpArgs false
namespace Det
def flip (n : Nat) : Mx := fun k j => if k + j = n - 1 then 1 else 0
theorem mul_flip {n : Nat} {A : Mx} {i j : Nat} (hj : j < n) : mul n A (flip n) i j = A i (n - 1 - j) := by
  show sumN n (fun k => A i k * flip n k j) = _
  rw [sum_one (k := n - 1 - j) (by omega) fun k hk hn => by unfold flip; rw [if_neg (by omega), Int.mul_zero]]
  unfold flip; rw [if_pos (by omega), Int.mul_one]
theorem flip_det {n : Nat} : (det n (flip n)).natAbs = 1 := by
  have e : det n (flip n) * det n (flip n) = 1 := by
    rw [← det_mul, ← det_one n]
    refine det_congr fun i j hi hj => ?_
    rw [mul_flip hj]
    unfold flip one
    by_cases h : i = j
    · rw [if_pos h, if_pos (by omega)]
    · rw [if_neg h, if_neg (by omega)]
  have h2 := congrArg Int.natAbs e
  rw [Int.natAbs_mul] at h2
  exact Nat.eq_one_of_mul_eq_one_left h2
theorem det_flip {n : Nat} {A : Mx} : (det n fun i j => A i (n - 1 - j)).natAbs = (det n A).natAbs := by
  have e : (det n fun i j => A i (n - 1 - j)) = det n A * det n (flip n) := by
    rw [← det_mul]; exact det_congr fun i j _ hj => (mul_flip hj).symm
  rw [e, Int.natAbs_mul, flip_det, Nat.mul_one]
end Det
namespace VM
open PySem L2
theorem gcdL_abs (r : List Int) : gcdL r = (r.map Int.natAbs).foldl Nat.gcd 0 := by unfold gcdL; rw [List.foldl_map]
theorem gcd_perm {a b : List Int} (h : (a.map Int.natAbs).Perm (b.map Int.natAbs)) : gcdL a = gcdL b := by
  rw [gcdL_abs, gcdL_abs]
  exact h.foldl_eq' (fun x _ y _ z => by rw [Nat.gcd_assoc, Nat.gcd_comm x, ← Nat.gcd_assoc]) 0
theorem sort_perm {a b : List Int} (h : a.Perm b) : sortL a = sortL b := by
  refine sortL_is ((List.mergeSort_perm a _).trans h) ?_
  have := List.pairwise_mergeSort (le := fun a b : Int => decide (a ≤ b)) (fun a b c h1 h2 => by simp only [decide_eq_true_eq] at *; omega) (fun a b => by simp only [Bool.or_eq_true, decide_eq_true_eq]; omega) a
  exact this.imp fun h => by simpa using h
/-- rows turned: the parts are those, but for signs and order -/
theorem parts_mir {n m : Nat} {A : Det.Mx} : ((partsL n m fun i j => A i (m - 1 - j)).map Int.natAbs).Perm ((partsL n m A).map Int.natAbs) := by
  unfold partsL
  rw [List.map_map, List.map_map]
  have e : (PC.lch m n 0).map (Int.natAbs ∘ fun r => Det.det n (sel (fun i j => A i (m - 1 - j)) r)) = ((PC.lch m n 0).map (PC.mir m)).map (Int.natAbs ∘ fun r => Det.det n (sel A r)) := by
    rw [List.map_map]
    refine List.map_congr_left fun r hr => ?_
    obtain ⟨h1, h2⟩ := lch_ok hr
    show (Det.det n (sel (fun i j => A i (m - 1 - j)) r)).natAbs = (Det.det n (sel A (PC.mir m r))).natAbs
    rw [← Det.det_flip (A := sel A (PC.mir m r))]
    refine congrArg Int.natAbs (Det.det_congr fun i j hi hj => ?_)
    show A i (m - 1 - r.getD j 0) = A i ((PC.mir m r).getD (n - 1 - j) 0)
    congr 1
    unfold PC.mir
    rw [List.getD_eq_getElem?_getD, List.getD_eq_getElem?_getD, List.getElem?_reverse (by rw [List.length_map]; omega), List.length_map, h1, List.getElem?_map, show n - 1 - (n - 1 - j) = j by omega, List.getElem?_eq_getElem (by omega)]
    rfl
  rw [e]
  exact PC.mir_perm.map _
end VM

set_option Elab.async false
set_option maxRecDepth 100000
set_option autoImplicit false
set_option linter.unusedVariables false
/-! _law_name_of: what the exception that is handled is called -/
namespace VM
open PySem PySem.Spec PyProof.Rows L2 VMH
/-- isinstance(e, c), e the exception that is handled -/
theorem call_isX {X : Cx} {a Da : Addr} {oe : Obj} (hot : HotAll X a oe) (C : ExcC X.K Da) (hz : Zc (.ref Da) none oe) : CallR X (.builtin "isinstance") (rIsE X.K Da a) := by
  intro pins s σ H xs us Q I r ⟨c, cv, b, ex, hcv, e, q⟩
  subst ex
  cases r with
  | cons rx rr =>
    cases rr with
    | cons rt rr =>
      cases rr; cases rx
      cases hcv _ rt
      obtain ⟨_, ⟨vs, hv, _⟩, h2⟩ := hot
      have J : PySem.W.InstAt s.heap a oe Da none := by
        obtain ⟨oc, od, oda, osl⟩ := oe
        obtain ⟨h3, h4⟩ := hz
        dsimp only at h3 h4 hv
        subst h3 h4 hv
        exact ⟨(h2 _ _ _ _ I).1, rfl, rfl, trivial⟩
      exact PySem.W.kia_one (PySem.W.handS_kitx_exc C.hg C.hk C.hs C.hd C.ha C.hn C.ht C.hm) I.kIn J e (fun z => nomatch z) fun tk => ⟨.bl b, H, I.kept (t' := tk) fun _ _ z => z, rfl, q⟩
section
variable {X : Cx} {a Da : Addr} {oe : Obj}
theorem pe_is {i : Nat} {x y : Str} {c : V} {cv : Value} {b : Bool} {p p2 p3 pos : Pos} (hot : HotAll X a oe) (C : ExcC X.K Da) (hz : Zc (.ref Da) none oe) (hk : PySem.W.kitOne X.K (.ref Da) cv = some b) (hc : PE X (.Name y p3) (tC c)) (hcv : ∀ u, RelV c u → u = cv)
    (hg : Gl X "isinstance") (hm : X.mg "isinstance" = none) (hN : X.N[i]? = some x) (hv : Vis X.env.scope x) (hd : (x == ("__debug__" : Str)) = false) (hcd : (x == ("__classdict__" : Str)) = false) :
    PE X (.Call (.Name "isinstance" p) [.Name x p2, .Name y p3] [] pos) (fun σ H Q => σ[i]? = some (some (.ref a)) ∧ Q (.bl b) H) :=
  (pe_callB (call_isX hot C hz) hg hm (by decide +kernel) (pa_cons (pe_var (i := i) hN hv hd hcd) (pa_cons hc pa_nil))).mono fun σ H Q ⟨h1, h2⟩ => ⟨_, h1, c, cv, b, rfl, hcv, hk, h2⟩
theorem sw_sole {e : Expr} {x : Str} {p : Pos} {l : Nat} {env : Env} (h : isLc e = false) : swapsWithSole [.Name x p] e l env = pure false := show swapsWith e (some (Expr.Name x p)) l env = pure false from sw_none h
theorem ss_sole {e : Expr} {x : Str} {p : Pos} {env : Env} : swappedStores [.Name x p] e env = pure none := ss_noTup (.inl rfl) fun es q z => by cases z
/-- a row of such tests -/
def tBs (i : Nat) (a : Addr) (bs : List Bool) : L2.TA := fun σ H Q => σ[i]? = some (some (.ref a)) ∧ Q (bs.map .bl) H
theorem pa_is0 {i : Nat} {a : Addr} : PA X [] (tBs i a []) := pa_nil.mono fun σ H Q ⟨_, q⟩ => q
theorem pa_is1 {i : Nat} {a : Addr} {b : Bool} {bs : List Bool} {e : Expr} {es : List Expr} (h1 : PE X e (fun σ H Q => σ[i]? = some (some (.ref a)) ∧ Q (.bl b) H)) (h2 : PA X es (tBs i a bs)) (hs : starEach (e :: es) X.env = (false, eval e X.env) :: starEach es X.env) : PA X (e :: es) (tBs i a (b :: bs)) :=
  (pa_cons h1 h2 hs).mono fun σ H Q ⟨q1, q2⟩ => ⟨q1, q1, q2⟩
end
theorem walk_zipq {K : PySem.W.Frag} {a b : Addr} {xs ys : List V} (h : xs.length = ys.length) : Walk (Itq K a b) xs.length (fun H => SqL K H a xs ∧ SqL K H b ys) (YPair (fun i => xs[i]?) (fun i => ys[i]?)) := by
  have w := walk_zip (K := K) (a := a) (b := b) (xs := xs) (ys := ys) (n := xs.length) (by omega)
  exact ⟨w.goes, fun H q => ⟨xs, ys, q.1, q.2, Nat.le_refl _⟩, w.yields⟩
/-- the names that are so -/
def pickN (ns : List Str) (bs : List Bool) : List Str := (ns.zip bs).filterMap fun p => if p.2 then some p.1 else none
theorem pickN_snoc {ns : List Str} {bs : List Bool} {i : Nat} {x : Str} {b : Bool} (h1 : ns[i]? = some x) (h2 : bs[i]? = some b) : pickN (ns.take (i + 1)) (bs.take (i + 1)) = pickN (ns.take i) (bs.take i) ++ (if b then [x] else []) := by
  have l1 := (List.getElem?_eq_some_iff.mp h1).1
  have l2 := (List.getElem?_eq_some_iff.mp h2).1
  unfold pickN
  rw [List.take_add_one, List.take_add_one, h1, h2]
  show ((ns.take i ++ [x]).zip (bs.take i ++ [b])).filterMap _ = _
  rw [List.zip_append (by simp; omega), List.filterMap_append]
  cases b <;> rfl
/-- what the class tests say -/
structure NmOk (K : PySem.W.Frag) (mg : Str → Option Value) (Da : Addr) (bs : List Bool) : Prop where
  exc : ExcC K Da
  len : bs.length = 10
  cls : ∀ (i : Nat) (x : Str), i < 9 → (["NoMatch", "NoNumber", "NoRow", "NoSize", "NoStep", "NoText", "NothingLeft", "NoWorth", "TooMany"] : List Str)[i]? = some x → ∃ C, mg x = some (.ref C) ∧ PySem.W.kitOne K (.ref Da) (.ref C) = bs[i]?
  ve : PySem.W.kitOne K (.ref Da) (.type "ValueError") = bs[9]?
theorem kit_self {K : PySem.W.Frag} {C : Addr} : PySem.W.kitOne K (.ref C) (.ref C) = some true := if_pos (beq_self_eq_true _)
theorem kit_ref {K : PySem.W.Frag} {C D : Addr} {b : Bool} (hne : (Value.ref D == Value.ref C) = false) (hdct : PySem.W.hasDictIn K C = true) (ht : PySem.W.typeIn K (.ref C) = some (.type "type")) (hs : PySem.W.subIn K (.ref D) (.ref C) = some b) : PySem.W.kitOne K (.ref D) (.ref C) = some b := by
  obtain ⟨cd, hc, _⟩ := PySem.W.any_some hdct
  have e2 : ((PySem.W.clsIn K C).isSome && PySem.W.typeIn K (.ref C) == some (.type "type")) = true := by rw [hc, ht] <;> rfl
  show (if (Value.ref D == Value.ref C) = true then some true else (if ((PySem.W.clsIn K C).isSome && PySem.W.typeIn K (.ref C) == some (.type "type")) = true then PySem.W.subIn K (.ref D) (.ref C) else none)) = some b
  rw [if_neg (by rw [hne]; decide), if_pos e2]; exact hs
theorem kit_ve {K : PySem.W.Frag} {D : Addr} (hs : PySem.W.subIn K (.ref D) (.type "ValueError") = some true) : PySem.W.kitOne K (.ref D) (.type "ValueError") = some true := by
  show (if (Value.ref D == Value.type "ValueError") = true then some true else (if PySem.W.kitMeta "ValueError" = true then PySem.W.subIn K (.ref D) (.type "ValueError") else none)) = some true
  rw [if_neg (by intro h; cases (beq_iff_eq.mp h)), if_pos (by decide +kernel)]; exact hs
theorem nm_cls {K : PySem.W.Frag} {mg : Str → Option Value} {Da C0 C1 C2 C3 C4 C5 C6 C7 C8 : Addr} {b0 b1 b2 b3 b4 b5 b6 b7 b8 b9 : Bool} (g0 : mg "NoMatch" = some (.ref C0)) (k0 : PySem.W.kitOne K (.ref Da) (.ref C0) = some b0) (g1 : mg "NoNumber" = some (.ref C1)) (k1 : PySem.W.kitOne K (.ref Da) (.ref C1) = some b1) (g2 : mg "NoRow" = some (.ref C2)) (k2 : PySem.W.kitOne K (.ref Da) (.ref C2) = some b2) (g3 : mg "NoSize" = some (.ref C3)) (k3 : PySem.W.kitOne K (.ref Da) (.ref C3) = some b3) (g4 : mg "NoStep" = some (.ref C4)) (k4 : PySem.W.kitOne K (.ref Da) (.ref C4) = some b4) (g5 : mg "NoText" = some (.ref C5)) (k5 : PySem.W.kitOne K (.ref Da) (.ref C5) = some b5) (g6 : mg "NothingLeft" = some (.ref C6)) (k6 : PySem.W.kitOne K (.ref Da) (.ref C6) = some b6) (g7 : mg "NoWorth" = some (.ref C7)) (k7 : PySem.W.kitOne K (.ref Da) (.ref C7) = some b7) (g8 : mg "TooMany" = some (.ref C8)) (k8 : PySem.W.kitOne K (.ref Da) (.ref C8) = some b8) :
    ∀ (i : Nat) (x : Str), i < 9 → (["NoMatch", "NoNumber", "NoRow", "NoSize", "NoStep", "NoText", "NothingLeft", "NoWorth", "TooMany"] : List Str)[i]? = some x → ∃ C, mg x = some (.ref C) ∧ PySem.W.kitOne K (.ref Da) (.ref C) = [b0, b1, b2, b3, b4, b5, b6, b7, b8, b9][i]? := by
  intro i x hi hx
  match i, hi with
  | 0, _ => cases hx; exact ⟨C0, g0, k0⟩
  | 1, _ => cases hx; exact ⟨C1, g1, k1⟩
  | 2, _ => cases hx; exact ⟨C2, g2, k2⟩
  | 3, _ => cases hx; exact ⟨C3, g3, k3⟩
  | 4, _ => cases hx; exact ⟨C4, g4, k4⟩
  | 5, _ => cases hx; exact ⟨C5, g5, k5⟩
  | 6, _ => cases hx; exact ⟨C6, g6, k6⟩
  | 7, _ => cases hx; exact ⟨C7, g7, k7⟩
  | 8, _ => cases hx; exact ⟨C8, g8, k8⟩
theorem iteT {P Q : Prop} {b : Bool} (h : b = true) (p : P) : if b = true then P else Q := by rw [if_pos h]; exact p
theorem iteF {P Q : Prop} (q : Q) : if false = true then P else Q := by rw [if_neg Bool.false_ne_true]; exact q
theorem set34 {σ : L2.St} {a b c d : Option V} : (((σ.set 3 a).set 4 b).set 4 c).set 3 d = (σ.set 4 c).set 3 d := by
  rw [List.set_set, List.set_comm c d (by decide : (4 : Nat) ≠ 3), List.set_set, List.set_comm d c (by decide : (3 : Nat) ≠ 4)]
theorem set44 {σ : L2.St} : (((σ.set 4 none).set 3 none).set 4 none).set 3 none = ((σ.set 4 none).set 3 none : L2.St) := by
  rw [List.set_comm _ _ (by decide : (3 : Nat) ≠ 4), List.set_set, List.set_set]
theorem set43 {σ : L2.St} {c d e f : Option V} : (((σ.set 4 c).set 3 d).set 3 e).set 4 f = (σ.set 3 e).set 4 f := by
  rw [List.set_set, List.set_comm e f (by decide : (3 : Nat) ≠ 4), List.set_set, List.set_comm f e (by decide : (4 : Nat) ≠ 3)]
/-- the comprehension and the join -/
theorem nm_end {K : PySem.W.Frag} {H H0 : Hp} {p5 p6 : Addr} {ns : List Str} {bs : List Bool} {D : L2.Ends} {σ : L2.St} (hl : ns.length = bs.length ∧ ns.length < sizeLine ∧ (ns.map (·.length)).sum ≤ 16777216 ∧ σ[2]? = some (some (.ref p6)) ∧ σ[1]? = some (some (.ref p5)) ∧ 4 < σ.length) (sm : Same H0 H) (h5 : H p5 = some (.lst (bs.map V.bl))) (h6 : H p6 = some (.lst (ns.map V.str))) (hD : ∀ H', Same H0 H' → D.rt (.str (Txt.join "" (pickN ns bs))) H') :
    tRet (tM1 (fun x xs H Q => ∃ a p, ∃ ys : List Str, x = .str a ∧ xs = [.ref p] ∧ (SqL K H p (ys.map V.str) ∨ SqT K H p (ys.map V.str)) ∧ (ys.map (·.length)).sum + ys.length * a.length ≤ 16777216 ∧ Q (.str (Txt.join a ys)) H) (tC (.str ""))
      (tLc (fun σ H R => tCons (tVar 2) (tCons (tVar 1) tNil) σ H fun vs H1 => ∃ a b xs ys, vs = [.ref a, .ref b] ∧ SqL K H1 a xs ∧ SqL K H1 b ys ∧ R (Itq K a b) H1) (gTup K 2 (gCons (gName 3) (gCons (gName 4) gNil))) (fun σ H Q => tVar 4 σ H fun x H' => ∃ k, TruV K x H' k ∧ Q k H') (tVar 3) [3, 4])) D σ H := by
  obtain ⟨l1, l2, l3, s2, s1, ls⟩ := hl
  refine ⟨⟨_, rfl⟩, ⟨_, s2, _, s1, p6, p5, _, _, rfl, .inl (.inl h6), .inl (.inl h5), fun Dn hn => ?_⟩⟩
  have d5 : p5 ≠ Dn := fun e => by rw [e, hn] at h5; cases h5
  have d6 : p6 ≠ Dn := fun e => by rw [e, hn] at h6; cases h6
  refine lc_it (g := gTup K 2 (gCons (gName 3) (gCons (gName 4) gNil))) (tt := fun σ H Q => tVar 4 σ H fun x H' => ∃ k, TruV K x H' k ∧ Q k H') (te := tVar 3) (vs := [3, 4]) (σ := σ) (H1 := H) (D := Dn) (walk_zipq (K := K) (a := p6) (b := p5) (xs := ns.map V.str) (ys := bs.map V.bl) (by simpa using l1)) (fun i H' => Same H H' ∧ H' Dn = some (.lst ((pickN (ns.take i) (bs.take i)).map V.str))) ⟨same_new hn, upd_same⟩ (fun i H' _ ⟨q1, q2⟩ => ⟨.inl (.inl (q1 _ _ h6)), .inl (.inl (q1 _ _ h5))⟩) (fun i x H' H'' hi ⟨q1, q2⟩ y => ?_) fun H' ⟨q1, q2⟩ => ?_
  · obtain ⟨T, u, v, rfl, hT, rfl, hx, hy⟩ := y
    have hx : (ns.map V.str)[i]? = some u := hx
    have hy : (bs.map V.bl)[i]? = some v := hy
    rw [List.getElem?_map] at hx hy
    obtain ⟨z, hz, rfl⟩ := map_some hx
    obtain ⟨k, hk, rfl⟩ := map_some hy
    have sT := same_new (o := HO.tup [V.str z, V.bl k]) hT
    refine ⟨T, _, rfl, .inl (.inl upd_same), rfl, _, _, rfl, _, _, rfl, rfl, ⟨set34.trans set44, ?_⟩⟩
    have w3 : ((wipe σ [3, 4]).set 3 (some (V.str z))).set 4 (some (V.bl k)) = (σ.set 3 (some (V.str z))).set 4 (some (V.bl k)) := set43
    rw [w3]
    refine ⟨.bl k, List.getElem?_set_self (by simpa using ls), k, rfl, ?_⟩
    have sn := pickN_snoc hz hk
    cases k with
    | true =>
      refine iteT rfl ⟨.str z, by rw [List.getElem?_set_ne (by decide)]; exact List.getElem?_set_self (by omega), _, sT _ _ q2, ?_, ?_, ?_⟩
      · rw [List.length_map]
        refine Nat.lt_of_le_of_lt (List.length_filterMap_le _ _) ?_
        rw [List.length_zip, List.length_take]; omega
      · intro x o e
        by_cases hxd : x = Dn
        · rw [hxd, hn] at e; cases e
        · rw [upd_ne hxd]; exact sT _ _ (q1 _ _ e)
      · rw [upd_same, sn, List.map_append]; rfl
    | false =>
      refine iteF ⟨fun x o e => sT _ _ (q1 _ _ e), by rw [sn]; simpa using sT _ _ q2⟩
  · have e1 : ns.take (ns.map V.str).length = ns := by rw [List.length_map]; exact List.take_length
    have e2 : bs.take (ns.map V.str).length = bs := by rw [List.length_map, l1]; exact List.take_length
    rw [e1, e2] at q2
    refine ⟨_, Dn, pickN ns bs, rfl, rfl, .inl (.inl (.inl q2)), ?_, hD _ fun x o e => q1 _ _ (sm _ _ e)⟩
    have : ∀ (ns : List Str) (bs : List Bool), ((pickN ns bs).map (·.length)).sum ≤ (ns.map (·.length)).sum := by
      intro ns
      induction ns with
      | nil => intro bs; simp [pickN]
      | cons a ns ih =>
        intro bs
        cases bs with
        | nil => simp [pickN]
        | cons b bs =>
          have := ih bs
          unfold pickN at this ⊢
          cases b <;> simp at this ⊢ <;> omega
    have h1 := this ns bs
    have h0 : (("" : Str)).length = 0 := rfl
    rw [h0]; omega
theorem hot_cxH {CX : CXT} {prog : Program} {w : World} {K : PySem.W.Frag} {mg : Str → Option Value} {base : Heap} {N : List Str} {qual : Str} {scope : Scope} {f : Addr} {cd : Value} {A : Around} {outer : List Env} {s : Shared} {H : Hp} {E : XK} {p : Addr × Obj} (h : L2H.Hot1 A p) :
    HotAll (L2H.cxH CX prog w K mg base N qual scope f cd A outer s H E p) p.1 p.2 :=
  ⟨h.1, h.2, fun pins σ H' s' I => by
    have z := I.pin p (List.mem_append_left _ List.mem_cons_self)
    exact ⟨z.1, z.2.1, fun hm => (List.mem_cons.mp (I.stkSub p.1 hm)).elim z.2.2.1 z.2.2.2.1⟩⟩
end VM

set_option Elab.async false
set_option maxRecDepth 100000
set_option linter.all false
set_option autoImplicit false
namespace Law
open PySem PySem.Spec PyProof.Rows L2 VM
def top (i : Nat) : Stmt := PySem.Challenge.pw_oneworth_k04_parts.main.body.getD i (.Pass ⟨0, 0, 0, 0⟩)
abbrev d_need_few : DI := ⟨"need_few", top 12, ["rows"], ["rows"], false, [], [], [], ["NoMatch"], false⟩
abbrev d_worth_in : DI := ⟨"worth_in", top 13, ["table", "rows", "sign", "last", "k", "i", "heads", "j", "row"], ["table"], false, [(29, 11, 39), (29, 12, 21)], [], [], [], false⟩
abbrev d_choices : DI := ⟨"choices", top 14, ["many", "size", "found", "turn", "longer", "some", "place"], ["many", "size"], false, [(47, 17, 19)], [], [], [], false⟩
abbrev d_parts : DI := ⟨"parts", top 15, ["rows", "found", "some", "row", "place"], ["rows"], false, [(54, 12, 14)], [], [], [], false⟩
abbrev d_divisor : DI := ⟨"divisor", top 16, ["one", "other"], ["one", "other"], false, [], [], [], [], false⟩
abbrev d_common_of : DI := ⟨"common_of", top 17, ["numbers", "found", "number"], ["numbers"], false, [], [], [], [], false⟩
abbrev d_common_part : DI := ⟨"common_part", top 18, ["rows"], ["rows"], false, [], [], [], [], false⟩
abbrev d__law_deck : DI := ⟨"_law_deck", top 20, ["cell", "turn"], ["cell", "turn"], false, [], [], [], [], false⟩
abbrev d__law_pick : DI := ⟨"_law_pick", top 21, ["deck", "many", "found", "number"], ["deck", "many"], false, [], [], [], [], false⟩
abbrev d__law_number : DI := ⟨"_law_number", top 23, ["deck", "way", "far"], ["deck", "way"], false, [], [], [], [], false⟩
abbrev d__law_rows : DI := ⟨"_law_rows", top 24, ["deck", "many", "long", "way", "size", "i", "j", "rows", "turn", "share", "row", "at", "other", "one"], ["deck", "many", "long"], false, [(101, 11, 68), (101, 12, 46)], [], [], [], false⟩
abbrev d__law_whole : DI := ⟨"_law_whole", top 25, ["thing"], ["thing"], false, [], [], [], [], false⟩
abbrev d__law_worth : DI := ⟨"_law_worth", top 26, ["table", "found", "j", "rest", "row"], ["table"], false, [], [], [], [], false⟩
abbrev d__law_choices : DI := ⟨"_law_choices", top 27, ["first", "many", "size", "found", "place", "rest"], ["first", "many", "size"], false, [], [], [], [], false⟩
abbrev d__law_parts : DI := ⟨"_law_parts", top 28, ["rows", "found", "some", "row", "place"], ["rows"], false, [(142, 12, 14)], [], [], [], false⟩
abbrev d__law_common : DI := ⟨"_law_common", top 29, ["numbers", "found", "number", "one"], ["numbers"], false, [], [], [], [], false⟩
abbrev d__law_told : DI := ⟨"_law_told", top 30, ["which", "rows", "told", "fault", "e"], ["which", "rows"], false, [], [], [], [], true⟩
abbrev d_law : DI := ⟨"law", top 31, ["script", "cell", "deck", "rows", "handed", "due", "turn", "found", "common", "back", "sizes", "row", "which", "one"], ["script"], false, [(163, 15, 33), (172, 24, 37)], [], [], [], false⟩
abbrev tab : List DI := [d_need_few, d_worth_in, d_choices, d_parts, d_divisor, d_common_of, d_common_part, d__law_deck, d__law_pick, d__law_number, d__law_rows, d__law_whole, d__law_worth, d__law_choices, d__law_parts, d__law_common, d__law_told]
def glb : List (Str × D) := [("parts", .fn "parts"), ("common_part", .fn "common_part"), ("int", .ty "int"), ("bool", .ty "bool"), ("list", .ty "list"), ("str", .ty "str"), ("tuple", .ty "tuple")]
def glob (x : Str) : Option D := glb.lookup x
noncomputable abbrev P : Pg := pgOf tab glob
def s__law_whole_0 : VM.S := (.ret (.and (.bi "isinstance" (.cons (.var 0) (.cons (.glob "int") .nil))) (.not (.bi "isinstance" (.cons (.var 0) (.cons (.glob "bool") .nil))))))
def b__law_whole : Ss := (.cons s__law_whole_0 .nil)
def f__law_whole : Fn := ⟨1, 1, false, b__law_whole⟩
def s__law_told_0 : VM.S := (.set (.name 2) .non)
def s__law_told_1 : VM.S := (.set (.name 3) (.str ""))
def s__law_told_2 : VM.S := (.try_ (.cons (.set (.name 2) (.calld (.ix (.lst (.cons (.glob "parts") (.cons (.glob "common_part") .nil))) (.var 0)) (.cons (.var 1) .nil)))
  .nil) 3 4)
def s__law_told_3 : VM.S := (.ret (.tup (.cons (.var 2) (.cons (.var 3) .nil))))
def b__law_told : Ss := (.cons s__law_told_0 (.cons s__law_told_1 (.cons s__law_told_2 (.cons s__law_told_3 .nil))))
def f__law_told : Fn := ⟨2, 5, false, b__law_told⟩
def s_law_0 : VM.S := (.for_ (.name 1) (.ex (.bin .Add (.lst (.cons (.int 0) .nil)) (.slc (.var 0) .npart (.int 4)))) (.cons (.set (.name 2) (.thaw (.call "_law_deck" (.cons (.var 1) (.cons (.int 0) .nil)))))
  (.cons (.set (.name 3) (.call "_law_rows" (.cons (.var 2) (.cons (.bin .Add (.int 1) (.call "_law_pick" (.cons (.var 2) (.cons (.int 6) .nil)))) (.cons (.bin .Add (.int 1) (.call "_law_pick" (.cons (.var 2) (.cons (.int 6) .nil)))) .nil)))))
  (.cons (.set (.name 4) (.lc (.bi "list" (.cons (.var 11) .nil)) (.name 11) (.ex (.var 3)) (.bl true) [11]))
  (.cons (.ife (.cmp .Gt (.bi "len" (.cons (.var 3) .nil)) (.bi "len" (.cons (.ix (.var 3) (.int 0)) .nil))) (.cons (.ife (.cmp .NotEq (.lc (.call "_law_told" (.cons (.var 12) (.cons (.var 4) .nil))) (.name 12) (.rng1 (.int 2)) (.bl true) [12]) (.bin .Mult (.lst (.cons (.tup (.cons .non (.cons (.str "NoMatch+") .nil))) .nil)) (.int 2))) (.cons (.ret (.bl false))
  .nil) .nil)
  .nil) (.cons (.set (.name 5) (.call "_law_parts" (.cons (.var 3) .nil)))
  (.cons (.for_ (.name 6) (.rng1 (.int 2)) (.cons (.set (.name 7) (.thaw (.call "parts" (.cons (.var 4) .nil))))
  (.cons (.ife (.or (.not (.bi "isinstance" (.cons (.var 7) (.cons (.glob "list") .nil)))) (.or (.cmp .NotEq (.var 7) (.var 5)) (.cmp .NotEq (.var 4) (.var 3)))) (.cons (.ret (.bl false))
  .nil) .nil)
  (.cons (.expr (.bm (.var 7) "append" (.cons .non .nil)))
  .nil))))
  (.cons (.set (.name 8) (.call "common_part" (.cons (.var 4) .nil)))
  (.cons (.ife (.or (.not (.call "_law_whole" (.cons (.var 8) .nil))) (.cmp .NotEq (.var 8) (.call "_law_common" (.cons (.var 5) .nil)))) (.cons (.ret (.bl false))
  .nil) .nil)
  (.cons (.set (.name 9) (.lc (.rev (.var 11)) (.name 11) (.ex (.var 3)) (.bl true) [11]))
  (.cons (.set (.name 10) (.bi "sorted" (.cons (.lc (.bi "max" (.cons (.var 13) (.cons (.bin .Sub (.int 0) (.var 13)) .nil))) (.name 13) (.ex (.call "parts" (.cons (.var 9) .nil))) (.bl true) [13]) .nil)))
  (.cons (.ife (.or (.cmp .NotEq (.var 10) (.bi "sorted" (.cons (.lc (.bi "max" (.cons (.var 13) (.cons (.bin .Sub (.int 0) (.var 13)) .nil))) (.name 13) (.ex (.var 5)) (.bl true) [13]) .nil))) (.cmp .NotEq (.call "common_part" (.cons (.var 9) .nil)) (.var 8))) (.cons (.ret (.bl false))
  .nil) .nil)
  .nil))))))))
  .nil)))))
def s_law_1 : VM.S := (.ret (.bl true))
def b_law : Ss := (.cons s_law_0 (.cons s_law_1 .nil))
def f_law : Fn := ⟨1, 14, false, b_law⟩
abbrev nms : List Str := tab.map (·.x)
theorem q_need_few : P.fns "need_few" = some f_need_few := by
  show (find tab "need_few").map (DI.fn nms) = _
  rw [show find tab "need_few" = some d_need_few by kernel_rfl]
  show some (DI.fn nms d_need_few) = _
  rw [show DI.fn nms d_need_few = f_need_few by kernel_rfl]
theorem q_worth_in : P.fns "worth_in" = some f_worth_in := by
  show (find tab "worth_in").map (DI.fn nms) = _
  rw [show find tab "worth_in" = some d_worth_in by kernel_rfl]
  show some (DI.fn nms d_worth_in) = _
  rw [show DI.fn nms d_worth_in = f_worth_in by kernel_rfl]
theorem q_choices : P.fns "choices" = some f_choices := by
  show (find tab "choices").map (DI.fn nms) = _
  rw [show find tab "choices" = some d_choices by kernel_rfl]
  show some (DI.fn nms d_choices) = _
  rw [show DI.fn nms d_choices = f_choices by kernel_rfl]
theorem q_parts : P.fns "parts" = some f_parts := by
  show (find tab "parts").map (DI.fn nms) = _
  rw [show find tab "parts" = some d_parts by kernel_rfl]
  show some (DI.fn nms d_parts) = _
  rw [show DI.fn nms d_parts = f_parts by kernel_rfl]
theorem q_divisor : P.fns "divisor" = some f_divisor := by
  show (find tab "divisor").map (DI.fn nms) = _
  rw [show find tab "divisor" = some d_divisor by kernel_rfl]
  show some (DI.fn nms d_divisor) = _
  rw [show DI.fn nms d_divisor = f_divisor by kernel_rfl]
theorem q_common_of : P.fns "common_of" = some f_common_of := by
  show (find tab "common_of").map (DI.fn nms) = _
  rw [show find tab "common_of" = some d_common_of by kernel_rfl]
  show some (DI.fn nms d_common_of) = _
  rw [show DI.fn nms d_common_of = f_common_of by kernel_rfl]
theorem q_common_part : P.fns "common_part" = some f_common_part := by
  show (find tab "common_part").map (DI.fn nms) = _
  rw [show find tab "common_part" = some d_common_part by kernel_rfl]
  show some (DI.fn nms d_common_part) = _
  rw [show DI.fn nms d_common_part = f_common_part by kernel_rfl]
theorem q__law_deck : P.fns "_law_deck" = some f__law_deck := by
  show (find tab "_law_deck").map (DI.fn nms) = _
  rw [show find tab "_law_deck" = some d__law_deck by kernel_rfl]
  show some (DI.fn nms d__law_deck) = _
  rw [show DI.fn nms d__law_deck = f__law_deck by kernel_rfl]
theorem q__law_pick : P.fns "_law_pick" = some f__law_pick := by
  show (find tab "_law_pick").map (DI.fn nms) = _
  rw [show find tab "_law_pick" = some d__law_pick by kernel_rfl]
  show some (DI.fn nms d__law_pick) = _
  rw [show DI.fn nms d__law_pick = f__law_pick by kernel_rfl]
theorem q__law_number : P.fns "_law_number" = some f__law_number := by
  show (find tab "_law_number").map (DI.fn nms) = _
  rw [show find tab "_law_number" = some d__law_number by kernel_rfl]
  show some (DI.fn nms d__law_number) = _
  rw [show DI.fn nms d__law_number = f__law_number by kernel_rfl]
theorem q__law_rows : P.fns "_law_rows" = some f__law_rows := by
  show (find tab "_law_rows").map (DI.fn nms) = _
  rw [show find tab "_law_rows" = some d__law_rows by kernel_rfl]
  show some (DI.fn nms d__law_rows) = _
  rw [show DI.fn nms d__law_rows = f__law_rows by kernel_rfl]
theorem q__law_whole : P.fns "_law_whole" = some f__law_whole := by
  show (find tab "_law_whole").map (DI.fn nms) = _
  rw [show find tab "_law_whole" = some d__law_whole by kernel_rfl]
  show some (DI.fn nms d__law_whole) = _
  rw [show DI.fn nms d__law_whole = f__law_whole by kernel_rfl]
theorem q__law_worth : P.fns "_law_worth" = some f__law_worth := by
  show (find tab "_law_worth").map (DI.fn nms) = _
  rw [show find tab "_law_worth" = some d__law_worth by kernel_rfl]
  show some (DI.fn nms d__law_worth) = _
  rw [show DI.fn nms d__law_worth = f__law_worth by kernel_rfl]
theorem q__law_choices : P.fns "_law_choices" = some f__law_choices := by
  show (find tab "_law_choices").map (DI.fn nms) = _
  rw [show find tab "_law_choices" = some d__law_choices by kernel_rfl]
  show some (DI.fn nms d__law_choices) = _
  rw [show DI.fn nms d__law_choices = f__law_choices by kernel_rfl]
theorem q__law_parts : P.fns "_law_parts" = some f__law_parts := by
  show (find tab "_law_parts").map (DI.fn nms) = _
  rw [show find tab "_law_parts" = some d__law_parts by kernel_rfl]
  show some (DI.fn nms d__law_parts) = _
  rw [show DI.fn nms d__law_parts = f__law_parts by kernel_rfl]
theorem q__law_common : P.fns "_law_common" = some f__law_common := by
  show (find tab "_law_common").map (DI.fn nms) = _
  rw [show find tab "_law_common" = some d__law_common by kernel_rfl]
  show some (DI.fn nms d__law_common) = _
  rw [show DI.fn nms d__law_common = f__law_common by kernel_rfl]
theorem q__law_told : P.fns "_law_told" = some f__law_told := by
  show (find tab "_law_told").map (DI.fn nms) = _
  rw [show find tab "_law_told" = some d__law_told by kernel_rfl]
  show some (DI.fn nms d__law_told) = _
  rw [show DI.fn nms d__law_told = f__law_told by kernel_rfl]
theorem e_law : lawFn nms d_law = f_law := by kernel_rfl
end Law

set_option Elab.async false
set_option maxRecDepth 10000
set_option autoImplicit false
set_option linter.unusedVariables false
set_option linter.unusedSimpArgs false
namespace Law
open PySem VM
open L2 (atI ixN)
theorem dr : Dr P := ⟨q__law_pick, q__law_number, q__law_rows⟩
section
variable {E : Exc → Sto → Prop} {n m p l k b B X N : Nat} {μ : Sto} {Q : VM.D × Nat → Sto → Prop} {A R : Det.Mx} {d e : VM.D} {Nn Bk Ct : Ev → Sto → Prop} {Rt : VM.D → Nat → Sto → Prop} {X' : Exc → Ev → Sto → Prop}
theorem g_of {x : Str} {d : VM.D} (h : glb.lookup x = some d) : ((tb P n).glob x = some d) := by rw [tb_glob]; exact h
theorem g_int : (tb P n).glob "int" = some (.ty "int") := g_of (by kernel_rfl)
theorem g_bool : (tb P n).glob "bool" = some (.ty "bool") := g_of (by kernel_rfl)
theorem g_list : (tb P n).glob "list" = some (.ty "list") := g_of (by kernel_rfl)
theorem g_parts : (tb P n).glob "parts" = some (.fn "parts") := g_of (by kernel_rfl)
theorem g_common : (tb P n).glob "common_part" = some (.fn "common_part") := g_of (by kernel_rfl)
theorem whole {z : Int} (q : Q (.bl true, 0) μ) : Wp ((tb P (k + 1)).call "_law_whole" b [.int z] μ) Q E := by
  refine (wp_call q__law_whole).mpr ((wp_run (by rfl)).mpr ?_)
  unfold b__law_whole s__law_whole_0
  simp only [List.map_cons, List.map_nil, List.replicate, List.cons_append, List.nil_append, ws_cons, ws_nil, ws_ife, ws_set, ws_sub, ws_ret_, ws_expr, ws_pass, ws_retn, ws_brk, ws_cnt, x_cmp, x_cmp2, x_ix, x_int, x_bl, x_str, x_non, x_npart, x_bin, x_neg, x_not, x_and, x_or, x_ife, x_lst, x_tup, x_call, x_bi, x_thaw, x_glob, ws_nilE, ws_consE, y_var, List.getElem?_cons_zero, List.getElem?_cons_succ, Option.some.injEq, exists_eq_left', List.set_cons_zero, List.set_cons_succ, c_gt, c_lt, c_le, c_ge, c_eq, c_ne, t_bl, t_int, n_add, n_sub, n_mul, n_mod, n_fdiv, n_pow, n_neg, ix_lst, ix_tup, decide_eq_true_eq, decide_eq_false_iff_not, g_int, g_bool, isin_of (show tyD μ (.int z) = some "int" from rfl) (show isaT "int" "int" = some true by decide +kernel), isin_of (show tyD μ (.int z) = some "int" from rfl) (show isaT "int" "bool" = some false by decide +kernel), Bool.not_false, f_bl, List.take_length, Bool.true_eq_false, false_implies, and_true, true_implies]
  exact q
theorem hB6 (hn : n ≤ 6) (hB : B ≤ 1000) : n * (B + n) < 60000000 := Nat.lt_of_le_of_lt (Nat.mul_le_mul hn (show B + n ≤ 1006 by omega)) (by decide)
theorem partsC (t : TA μ d n m A) (hn1 : 1 ≤ n) (hn : n ≤ 6) (hm : m ≤ 6) (hA : ∀ i j, i < n → j < m → (A i j).natAbs ≤ 2 ^ 200) (e1 : m < n → E ⟨"NoMatch", none⟩ μ) (q : n ≤ m → Q (.lst ((partsL n m A).map .int), 9) μ) : Wp ((tb P (k + 2)).call "parts" b [d] μ) Q E :=
  parts (B := 200) q_parts q_need_few q_choices q_worth_in t hn1 hm hA (hB6 hn (by decide)) e1 q
theorem commonC (t : TA μ d n m A) (hn1 : 1 ≤ n) (hn : n ≤ 6) (hm : m ≤ 6) (hA : ∀ i j, i < n → j < m → (A i j).natAbs ≤ 2 ^ 200) (e1 : m < n → E ⟨"NoMatch", none⟩ μ) (q : n ≤ m → Q (.int (gcdL (partsL n m A) : Nat), 0) μ) : Wp ((tb P (k + 3)).call "common_part" b [d] μ) Q E :=
  common_part (B := 200) q_common_part q_common_of q_divisor rfl q_parts q_need_few q_choices q_worth_in t hn1 hm hA (hB6 hn (by decide)) e1 q
theorem told {w : Int} (hw : w = 0 ∨ w = 1) (t : TA μ d n m A) (hn1 : 1 ≤ n) (hn : n ≤ 6) (hm : m ≤ 6) (hnm : m < n) (hA : ∀ i j, i < n → j < m → (A i j).natAbs ≤ 2 ^ 200) (q : Q (.tup [.non, .str "NoMatch+"], 9) μ) : Wp ((tb P (k + 4)).call "_law_told" b [.int w, d] μ) Q E := by
  refine (wp_call q__law_told).mpr ((wp_run (by rfl)).mpr ?_)
  unfold b__law_told s__law_told_0 s__law_told_1 s__law_told_2 s__law_told_3
  simp only [List.map_cons, List.map_nil, List.replicate, List.cons_append, List.nil_append]
  rw [ws_cons]
  simp only [ws_ife, ws_set, ws_sub, ws_ret_, ws_expr, ws_pass, ws_retn, ws_brk, ws_cnt, x_cmp, x_cmp2, x_ix, x_int, x_bl, x_str, x_non, x_npart, x_bin, x_neg, x_not, x_and, x_or, x_ife, x_lst, x_tup, x_call, x_bi, x_thaw, x_glob, ws_nilE, ws_consE, y_var, List.getElem?_cons_zero, List.getElem?_cons_succ, Option.some.injEq, exists_eq_left', List.set_cons_zero, List.set_cons_succ, c_gt, c_lt, c_le, c_ge, c_eq, c_ne, t_bl, t_int, n_add, n_sub, n_mul, n_mod, n_fdiv, n_pow, n_neg, ix_lst, ix_tup, decide_eq_true_eq, decide_eq_false_iff_not]
  rw [ws_cons]
  simp only [ws_ife, ws_set, ws_sub, ws_ret_, ws_expr, ws_pass, ws_retn, ws_brk, ws_cnt, x_cmp, x_cmp2, x_ix, x_int, x_bl, x_str, x_non, x_npart, x_bin, x_neg, x_not, x_and, x_or, x_ife, x_lst, x_tup, x_call, x_bi, x_thaw, x_glob, ws_nilE, ws_consE, y_var, List.getElem?_cons_zero, List.getElem?_cons_succ, Option.some.injEq, exists_eq_left', List.set_cons_zero, List.set_cons_succ, c_gt, c_lt, c_le, c_ge, c_eq, c_ne, t_bl, t_int, n_add, n_sub, n_mul, n_mod, n_fdiv, n_pow, n_neg, ix_lst, ix_tup, decide_eq_true_eq, decide_eq_false_iff_not]
  rw [ws_cons, ws_try, ws_cons, ws_set]
  refine x_calld ?_
  simp only [ws_ife, ws_set, ws_sub, ws_ret_, ws_expr, ws_pass, ws_retn, ws_brk, ws_cnt, x_cmp, x_cmp2, x_ix, x_int, x_bl, x_str, x_non, x_npart, x_bin, x_neg, x_not, x_and, x_or, x_ife, x_lst, x_tup, x_call, x_bi, x_thaw, x_glob, ws_nilE, ws_consE, y_var, List.getElem?_cons_zero, List.getElem?_cons_succ, Option.some.injEq, exists_eq_left', List.set_cons_zero, List.set_cons_succ, c_gt, c_lt, c_le, c_ge, c_eq, c_ne, t_bl, t_int, n_add, n_sub, n_mul, n_mod, n_fdiv, n_pow, n_neg, ix_lst, ix_tup, decide_eq_true_eq, decide_eq_false_iff_not, g_parts, g_common, List.length_cons, List.length_nil]
  refine ⟨by decide, ?_⟩
  rcases hw with rfl | rfl
  · simp only [at0, Option.some.injEq, exists_eq_left']
    refine ⟨_, rfl, partsC (k := k + 1) t hn1 hn hm hA (fun _ => ?_) fun h => by omega⟩
    refine ⟨⟨by decide +kernel, rfl, by show 4 < 5; decide⟩, ?_⟩
    simp only [ws_cons, ws_nil, ws_ife, ws_set, ws_sub, ws_ret_, ws_expr, ws_pass, ws_retn, ws_brk, ws_cnt, x_cmp, x_cmp2, x_ix, x_int, x_bl, x_str, x_non, x_npart, x_bin, x_neg, x_not, x_and, x_or, x_ife, x_lst, x_tup, x_call, x_bi, x_thaw, x_glob, ws_nilE, ws_consE, y_var, List.getElem?_cons_zero, List.getElem?_cons_succ, Option.some.injEq, exists_eq_left', List.set_cons_zero, List.set_cons_succ, c_gt, c_lt, c_le, c_ge, c_eq, c_ne, t_bl, t_int, n_add, n_sub, n_mul, n_mod, n_fdiv, n_pow, n_neg, ix_lst, ix_tup, decide_eq_true_eq, decide_eq_false_iff_not]
    refine ⟨by show 2 ≤ sizeLine; decide, _, out_non, ?_⟩
    rw [List.take_length]
    exact q
  · simp only [at1, Option.some.injEq, exists_eq_left']
    refine ⟨_, rfl, commonC (k := k) t hn1 hn hm hA (fun _ => ?_) fun h => by omega⟩
    refine ⟨⟨by decide +kernel, rfl, by show 4 < 5; decide⟩, ?_⟩
    simp only [ws_cons, ws_nil, ws_ife, ws_set, ws_sub, ws_ret_, ws_expr, ws_pass, ws_retn, ws_brk, ws_cnt, x_cmp, x_cmp2, x_ix, x_int, x_bl, x_str, x_non, x_npart, x_bin, x_neg, x_not, x_and, x_or, x_ife, x_lst, x_tup, x_call, x_bi, x_thaw, x_glob, ws_nilE, ws_consE, y_var, List.getElem?_cons_zero, List.getElem?_cons_succ, Option.some.injEq, exists_eq_left', List.set_cons_zero, List.set_cons_succ, c_gt, c_lt, c_le, c_ge, c_eq, c_ne, t_bl, t_int, n_add, n_sub, n_mul, n_mod, n_fdiv, n_pow, n_neg, ix_lst, ix_tup, decide_eq_true_eq, decide_eq_false_iff_not]
    refine ⟨by show 2 ≤ sizeLine; decide, _, out_non, ?_⟩
    rw [List.take_length]
    exact q
theorem ne_ints {r s : List Int} (h : itemsL μ d = some (r.map .int)) (h2 : itemsL μ e = some (s.map .int)) : cmpD .NotEq d e μ = some (!decide (r = s)) := by
  show (cmpD .Eq d e μ).map (fun k => !k) = _
  rw [eq_ints h h2]; rfl
theorem bi_sorted {r : List Int} : Wp (biD "sorted" [.lst (r.map .int)] μ) Q E ↔ r.length < 64 ∧ Q (.lst ((sortL r).map .int), 1) μ := by
  have e : (itemsL μ (VM.D.lst (r.map .int))).bind (fun xs => xs.mapM ofI) = some r := by
    show (r.map VM.D.int).mapM ofI = some r
    induction r with
    | nil => simp
    | cons a r ih => rw [List.map_cons, List.mapM_cons, ih]; rfl
  show Wp (match (itemsL μ (VM.D.lst (r.map .int))).bind (fun xs => xs.mapM ofI) with
    | some ks => if ks.length < 64 then .ok (.lst ((sortL ks).map .int), 1) μ else .bad
    | none => .bad) Q E ↔ _
  rw [e]
  show Wp (if r.length < 64 then .ok (.lst ((sortL r).map .int), 1) μ else .bad) Q E ↔ _
  rw [wp_if, wp_ok, wp_bad]; exact and_if
/-- [max(one, 0 - one) for one in numbers] -/
theorem sizes {T : Tb} {ρ : Ev} {r : List Int} {Q : List VM.D → Sto → Prop} (hl : ρ.length = 14) (hr : r.length < 64) (q : Q ((r.map fun z => (z.natAbs : Int)).map .int) μ) :
    Wp (lcLoop (lcF T b (.bi "max" (.cons (.var 13) (.cons (.bin .Sub (.int 0) (.var 13)) .nil))) (.name 13) (.bl true) [13] ρ) (.data (r.map .int)) ((Src.data (r.map .int)).size μ + 1) 0 [] μ) Q E := by
  have e : (r.map VM.D.int).filterMap (fun x => match x with | .int z => some (VM.D.int (z.natAbs : Int)) | _ => none) = (r.map fun z => (z.natAbs : Int)).map .int := by
    rw [List.filterMap_map, List.map_map]
    clear hr q
    induction r with
    | nil => rfl
    | cons a r ih => rw [List.filterMap_cons, List.map_cons, ← ih]; rfl
  refine wp_lcPure (xs := r.map .int) (fun x => match x with | .int z => some (VM.D.int (z.natAbs : Int)) | _ => none) (fun i => src_data i) rfl (by rw [List.length_map]; exact size_small (by omega)) (fun x hx => ?_) (by rw [e]; exact q)
  obtain ⟨z, _, rfl⟩ := List.mem_map.mp hx
  have v : ∀ w : VM.D, ((wipeD ρ [13]).set 13 (some w))[13]? = some (some w) := fun w => by rw [wipe1, List.set_set]; exact List.getElem?_set_self (by omega)
  simp only [ws_ife, ws_set, ws_sub, ws_ret_, ws_expr, ws_pass, ws_retn, ws_brk, ws_cnt, x_cmp, x_cmp2, x_ix, x_int, x_bl, x_str, x_non, x_npart, x_bin, x_neg, x_not, x_and, x_or, x_ife, x_lst, x_tup, x_call, x_bi, x_thaw, x_glob, ws_nilE, ws_consE, y_var, List.getElem?_cons_zero, List.getElem?_cons_succ, Option.some.injEq, exists_eq_left', List.set_cons_zero, List.set_cons_succ, c_gt, c_lt, c_le, c_ge, c_eq, c_ne, t_bl, t_int, n_add, n_sub, n_mul, n_mod, n_fdiv, n_pow, n_neg, ix_lst, ix_tup, decide_eq_true_eq, decide_eq_false_iff_not, lc_name, v, Bool.true_eq_false, false_implies, and_true, true_implies, bi_max2, max_abs]
theorem few (hn : n ≤ 6) (hm : m ≤ 6) : (partsL n m A).length < 64 := by
  unfold partsL; rw [List.length_map]
  exact PC.lch_few m (by omega) n (by omega)
end
end Law

set_option Elab.async false
set_option maxRecDepth 10000
set_option autoImplicit false
set_option linter.unusedVariables false
set_option linter.unusedSimpArgs false
namespace Law
open PySem VM
open L2 (atI ixN)
section
variable {E : Exc → Sto → Prop} {n m p l k b B X N : Nat} {μ : Sto} {Q : VM.D × Nat → Sto → Prop} {A R : Det.Mx} {d e : VM.D} {Nn Bk Ct : Ev → Sto → Prop} {Rt : VM.D → Nat → Sto → Prop} {X' : Exc → Ev → Sto → Prop}
abbrev evL (ns : List Int) (o1 o2 o3 o4 o5 o6 o7 o8 o9 o10 o11 o12 o13 : Option VM.D) : Ev := [some (.scr ns), o1, o2, o3, o4, o5, o6, o7, o8, o9, o10, o11, o12, o13]
abbrev sRef : Ss := (.cons (.ife (.cmp .NotEq (.lc (.call "_law_told" (.cons (.var 12) (.cons (.var 4) .nil))) (.name 12) (.rng1 (.int 2)) (.bl true) [12]) (.bin .Mult (.lst (.cons (.tup (.cons .non (.cons (.str "NoMatch+") .nil))) .nil)) (.int 2))) (.cons (.ret (.bl false))
  .nil) .nil)
  .nil)
theorem ne_ref : cmpD .NotEq (.lst [.tup [.non, .str "NoMatch+"], .tup [.non, .str "NoMatch+"]]) (.lst [.tup [.non, .str "NoMatch+"], .tup [.non, .str "NoMatch+"]]) μ = some false := by
  show (eqS μ (.lst [.tup [.non, .str "NoMatch+"], .tup [.non, .str "NoMatch+"]]) (.lst [.tup [.non, .str "NoMatch+"], .tup [.non, .str "NoMatch+"]])).map (fun k => !k) = _
  have e : eqS μ (.lst [.tup [.non, .str "NoMatch+"], .tup [.non, .str "NoMatch+"]]) (.lst [.tup [.non, .str "NoMatch+"], .tup [.non, .str "NoMatch+"]]) = eqS [] (.lst [.tup [.non, .str "NoMatch+"], .tup [.non, .str "NoMatch+"]]) (.lst [.tup [.non, .str "NoMatch+"], .tup [.non, .str "NoMatch+"]]) := rfl
  rw [e]; decide +kernel
theorem refused {ns : List Int} {o1 o2 o5 o6 o7 o8 o9 o10 o11 o12 o13 : Option VM.D} (hn1 : 1 ≤ n) (hn : n ≤ 6) (hm : m ≤ 6) (hnm : m < n) (hA : ∀ i j, i < n → j < m → (A i j).natAbs ≤ 2 ^ 200)
    (h : Nn (evL ns o1 o2 (some (tabD n m A)) (some (tabD n m A)) o5 o6 o7 o8 o9 o10 o11 o12 o13) μ) :
    Ws (runSs (tb P 14) b sRef (evL ns o1 o2 (some (tabD n m A)) (some (tabD n m A)) o5 o6 o7 o8 o9 o10 o11 o12 o13) μ) Nn Rt Bk Ct X' := by
  rw [ws_cons, ws_ife, x_cmp, x_lc]
  simp only [evL, ws_ife, ws_set, ws_sub, ws_ret_, ws_expr, ws_pass, ws_retn, ws_brk, ws_cnt, x_cmp, x_cmp2, x_ix, x_int, x_bl, x_str, x_non, x_npart, x_bin, x_neg, x_not, x_and, x_or, x_ife, x_lst, x_tup, x_call, x_bi, x_thaw, x_glob, ws_nilE, ws_consE, y_var, List.getElem?_cons_zero, List.getElem?_cons_succ, Option.some.injEq, exists_eq_left', List.set_cons_zero, List.set_cons_succ, c_gt, c_lt, c_le, c_ge, c_eq, c_ne, t_bl, t_int, n_add, n_sub, n_mul, n_mod, n_fdiv, n_pow, n_neg, ix_lst, ix_tup, decide_eq_true_eq, decide_eq_false_iff_not, i_r1, VM.D.int.injEq]
  refine ⟨by decide, ?_⟩
  rw [range_gen]
  refine wp_lcGen (n := 2) (h := fun _ => .tup [.non, .str "NoMatch+"]) (fun j => src_data j) rfl (by decide) (fun j hj => ?_) ?_
  · simp only [ws_ife, ws_set, ws_sub, ws_ret_, ws_expr, ws_pass, ws_retn, ws_brk, ws_cnt, x_cmp, x_cmp2, x_ix, x_int, x_bl, x_str, x_non, x_npart, x_bin, x_neg, x_not, x_and, x_or, x_ife, x_lst, x_tup, x_call, x_bi, x_thaw, x_glob, ws_nilE, ws_consE, y_var, List.getElem?_cons_zero, List.getElem?_cons_succ, Option.some.injEq, exists_eq_left', List.set_cons_zero, List.set_cons_succ, c_gt, c_lt, c_le, c_ge, c_eq, c_ne, t_bl, t_int, n_add, n_sub, n_mul, n_mod, n_fdiv, n_pow, n_neg, ix_lst, ix_tup, decide_eq_true_eq, decide_eq_false_iff_not, lc_name, wipe1, Bool.true_eq_false, false_implies, and_true, true_implies]
    exact told (k := 10) (by omega) TA.of hn1 hn hm hnm hA ⟨rfl, rfl⟩
  · have e1 : (genL 2 fun _ => VM.D.tup [.non, .str "NoMatch+"]) = [.tup [.non, .str "NoMatch+"], .tup [.non, .str "NoMatch+"]] := rfl
    have e2 : (List.replicate (Int.toNat 2) [VM.D.tup [.non, .str "NoMatch+"]]).flatten = [.tup [.non, .str "NoMatch+"], .tup [.non, .str "NoMatch+"]] := rfl
    simp only [List.length_cons, List.length_nil, mul_lst, e1, e2, ne_ref, Option.some.injEq, exists_eq_left', ws_ife, ws_set, ws_sub, ws_ret_, ws_expr, ws_pass, ws_retn, ws_brk, ws_cnt, x_cmp, x_cmp2, x_ix, x_int, x_bl, x_str, x_non, x_npart, x_bin, x_neg, x_not, x_and, x_or, x_ife, x_lst, x_tup, x_call, x_bi, x_thaw, x_glob, ws_nilE, ws_consE, y_var, List.getElem?_cons_zero, List.getElem?_cons_succ, Option.some.injEq, exists_eq_left', List.set_cons_zero, List.set_cons_succ, c_gt, c_lt, c_le, c_ge, c_eq, c_ne, t_bl, t_int, n_add, n_sub, n_mul, n_mod, n_fdiv, n_pow, n_neg, ix_lst, ix_tup, decide_eq_true_eq, decide_eq_false_iff_not, ws_nil]
    exact ⟨by decide, by decide, ⟨by decide, by decide, by decide⟩, fun z => absurd z (by decide), fun _ => h⟩
abbrev sDue : Ss := (.cons (.set (.name 5) (.call "_law_parts" (.cons (.var 3) .nil)))
  (.cons (.for_ (.name 6) (.rng1 (.int 2)) (.cons (.set (.name 7) (.thaw (.call "parts" (.cons (.var 4) .nil))))
  (.cons (.ife (.or (.not (.bi "isinstance" (.cons (.var 7) (.cons (.glob "list") .nil)))) (.or (.cmp .NotEq (.var 7) (.var 5)) (.cmp .NotEq (.var 4) (.var 3)))) (.cons (.ret (.bl false))
  .nil) .nil)
  (.cons (.expr (.bm (.var 7) "append" (.cons .non .nil)))
  .nil))))
  (.cons (.set (.name 8) (.call "common_part" (.cons (.var 4) .nil)))
  (.cons (.ife (.or (.not (.call "_law_whole" (.cons (.var 8) .nil))) (.cmp .NotEq (.var 8) (.call "_law_common" (.cons (.var 5) .nil)))) (.cons (.ret (.bl false))
  .nil) .nil)
  (.cons (.set (.name 9) (.lc (.rev (.var 11)) (.name 11) (.ex (.var 3)) (.bl true) [11]))
  (.cons (.set (.name 10) (.bi "sorted" (.cons (.lc (.bi "max" (.cons (.var 13) (.cons (.bin .Sub (.int 0) (.var 13)) .nil))) (.name 13) (.ex (.call "parts" (.cons (.var 9) .nil))) (.bl true) [13]) .nil)))
  (.cons (.ife (.or (.cmp .NotEq (.var 10) (.bi "sorted" (.cons (.lc (.bi "max" (.cons (.var 13) (.cons (.bin .Sub (.int 0) (.var 13)) .nil))) (.name 13) (.ex (.var 5)) (.bl true) [13]) .nil))) (.cmp .NotEq (.call "common_part" (.cons (.var 9) .nil)) (.var 8))) (.cons (.ret (.bl false))
  .nil) .nil)
  .nil)))))))
theorem due_ok {ns : List Int} {o1 o2 o5 o6 o7 o8 o9 o10 o11 o12 o13 : Option VM.D} (hn1 : 1 ≤ n) (hn : n ≤ 6) (hm : m ≤ 6) (hm1 : 1 ≤ m) (hnm : n ≤ m) (hA : ∀ i j, i < n → j < m → (A i j).natAbs ≤ 2 ^ 200)
    (h : ∀ μ' o5 o6 o7 o8 o9 o10 o11 o12 o13, Nn (evL ns o1 o2 (some (tabD n m A)) (some (tabD n m A)) o5 o6 o7 o8 o9 o10 o11 o12 o13) μ') :
    Ws (runSs (tb P 14) b sDue (evL ns o1 o2 (some (tabD n m A)) (some (tabD n m A)) o5 o6 o7 o8 o9 o10 o11 o12 o13) μ) Nn Rt Bk Ct X' := by
  have nx : ∀ {p : Prop}, m < n → p := fun z => absurd z (by omega)
  rw [ws_cons, ws_set, x_call, ws_consE]
  simp only [evL, ws_ife, ws_set, ws_sub, ws_ret_, ws_expr, ws_pass, ws_retn, ws_brk, ws_cnt, x_cmp, x_cmp2, x_ix, x_int, x_bl, x_str, x_non, x_npart, x_bin, x_neg, x_not, x_and, x_or, x_ife, x_lst, x_tup, x_call, x_bi, x_thaw, x_glob, ws_nilE, ws_consE, y_var, List.getElem?_cons_zero, List.getElem?_cons_succ, Option.some.injEq, exists_eq_left', List.set_cons_zero, List.set_cons_succ, c_gt, c_lt, c_le, c_ge, c_eq, c_ne, t_bl, t_int, n_add, n_sub, n_mul, n_mod, n_fdiv, n_pow, n_neg, ix_lst, ix_tup, decide_eq_true_eq, decide_eq_false_iff_not]
  have lp : ∀ (ν : Sto) (Q : VM.D × Nat → Sto → Prop) (E : Exc → Sto → Prop), Q (.lst ((partsL n m A).map .int), 9) ν → Wp ((tb P 14).call "_law_parts" b [tabD n m A] ν) Q E := fun ν Q E q => by
    have := law_parts (B := 200) (k := 12 - n) (b := b) (μ := ν) (E := E) (Q := Q) q__law_parts q__law_choices q__law_worth TA.of hn1 hn hm hA (hB6 hn (by decide)) q
    rw [show 12 - n + n + 2 = 14 by omega] at this; exact this
  refine lp _ _ _ ?_
  generalize hD : partsL n m A = due at *
  have hlen : due.length < 64 := by rw [← hD]; exact few hn hm
  rw [ws_cons]
  refine ws_forRange ?_
  simp only [ws_ife, ws_set, ws_sub, ws_ret_, ws_expr, ws_pass, ws_retn, ws_brk, ws_cnt, x_cmp, x_cmp2, x_ix, x_int, x_bl, x_str, x_non, x_npart, x_bin, x_neg, x_not, x_and, x_or, x_ife, x_lst, x_tup, x_call, x_bi, x_thaw, x_glob, ws_nilE, ws_consE, y_var, List.getElem?_cons_zero, List.getElem?_cons_succ, Option.some.injEq, exists_eq_left', List.set_cons_zero, List.set_cons_succ, c_gt, c_lt, c_le, c_ge, c_eq, c_ne, t_bl, t_int, n_add, n_sub, n_mul, n_mod, n_fdiv, n_pow, n_neg, ix_lst, ix_tup, decide_eq_true_eq, decide_eq_false_iff_not, i_r1, VM.D.int.injEq]
  refine ⟨by decide, 0, _, fun t ρ' μ' => ∃ o6 o7, ρ' = evL ns o1 o2 (some (tabD n m A)) (some (tabD n m A)) (some (.lst (due.map .int))) o6 o7 o8 o9 o10 o11 o12 o13, rfl, ⟨_, _, rfl⟩, fun t ρ' μ' ht hI => ?_, fun ρ' μ' hI => ?_⟩
  · obtain ⟨o6, o7, rfl⟩ := hI
    rw [ws_cons]
    simp only [evL, ws_ife, ws_set, ws_sub, ws_ret_, ws_expr, ws_pass, ws_retn, ws_brk, ws_cnt, x_cmp, x_cmp2, x_ix, x_int, x_bl, x_str, x_non, x_npart, x_bin, x_neg, x_not, x_and, x_or, x_ife, x_lst, x_tup, x_call, x_bi, x_thaw, x_glob, ws_nilE, ws_consE, y_var, List.getElem?_cons_zero, List.getElem?_cons_succ, Option.some.injEq, exists_eq_left', List.set_cons_zero, List.set_cons_succ, c_gt, c_lt, c_le, c_ge, c_eq, c_ne, t_bl, t_int, n_add, n_sub, n_mul, n_mod, n_fdiv, n_pow, n_neg, ix_lst, ix_tup, decide_eq_true_eq, decide_eq_false_iff_not]
    refine partsC (k := 12) TA.of hn1 hn hm hA nx fun _ => ?_
    rw [hD]
    refine ⟨_, 8, rfl, ?_⟩
    rw [ws_cons]
    have g1 : (μ' ++ [C.lst (due.map VM.D.int)])[μ'.length]? = some (.lst (due.map .int)) := by rw [List.getElem?_append_right (Nat.le_refl _), Nat.sub_self]; rfl
    have n1 : cmpD .NotEq (.cell μ'.length) (.lst (due.map .int)) (μ' ++ [C.lst (due.map VM.D.int)]) = some false := by
      rw [ne_ints (r := due) (s := due) (items_cell g1) rfl, decide_eq_true rfl]; rfl
    have n2 : cmpD .NotEq (tabD n m A) (tabD n m A) (μ' ++ [C.lst (due.map VM.D.int)]) = some false := by rw [ne_tab TA.of TA.of, decide_eq_true rfl]; rfl
    simp only [ws_ife, ws_set, ws_sub, ws_ret_, ws_expr, ws_pass, ws_retn, ws_brk, ws_cnt, x_cmp, x_cmp2, x_ix, x_int, x_bl, x_str, x_non, x_npart, x_bin, x_neg, x_not, x_and, x_or, x_ife, x_lst, x_tup, x_call, x_bi, x_thaw, x_glob, ws_nilE, ws_consE, y_var, List.getElem?_cons_zero, List.getElem?_cons_succ, Option.some.injEq, exists_eq_left', List.set_cons_zero, List.set_cons_succ, c_gt, c_lt, c_le, c_ge, c_eq, c_ne, t_bl, t_int, n_add, n_sub, n_mul, n_mod, n_fdiv, n_pow, n_neg, ix_lst, ix_tup, decide_eq_true_eq, decide_eq_false_iff_not, g_list, isin_of (ty_cell g1) isa_ll, Bool.not_true, n1, n2, ws_nil]
    refine ⟨fun _ => ⟨fun _ => ⟨fun z => absurd z (by decide), fun _ => ?_⟩, fun z => absurd z (by decide)⟩, fun z => absurd z (by decide)⟩
    rw [ws_cons]
    simp only [ws_ife, ws_set, ws_sub, ws_ret_, ws_expr, ws_pass, ws_retn, ws_brk, ws_cnt, x_cmp, x_cmp2, x_ix, x_int, x_bl, x_str, x_non, x_npart, x_bin, x_neg, x_not, x_and, x_or, x_ife, x_lst, x_tup, x_call, x_bi, x_thaw, x_glob, ws_nilE, ws_consE, y_var, List.getElem?_cons_zero, List.getElem?_cons_succ, Option.some.injEq, exists_eq_left', List.set_cons_zero, List.set_cons_succ, c_gt, c_lt, c_le, c_ge, c_eq, c_ne, t_bl, t_int, n_add, n_sub, n_mul, n_mod, n_fdiv, n_pow, n_neg, ix_lst, ix_tup, decide_eq_true_eq, decide_eq_false_iff_not, x_bm, items_cell g1, ws_nil]
    rw [append_at (d := .non) g1 (by rw [List.length_map]; exact szr (by omega)) (by unfold mayPut; rw [Bool.or_eq_true]; exact .inr rfl)]
    exact ⟨_, _, rfl⟩
  · obtain ⟨o6, o7, rfl⟩ := hI
    rw [ws_cons]
    simp only [evL, ws_ife, ws_set, ws_sub, ws_ret_, ws_expr, ws_pass, ws_retn, ws_brk, ws_cnt, x_cmp, x_cmp2, x_ix, x_int, x_bl, x_str, x_non, x_npart, x_bin, x_neg, x_not, x_and, x_or, x_ife, x_lst, x_tup, x_call, x_bi, x_thaw, x_glob, ws_nilE, ws_consE, y_var, List.getElem?_cons_zero, List.getElem?_cons_succ, Option.some.injEq, exists_eq_left', List.set_cons_zero, List.set_cons_succ, c_gt, c_lt, c_le, c_ge, c_eq, c_ne, t_bl, t_int, n_add, n_sub, n_mul, n_mod, n_fdiv, n_pow, n_neg, ix_lst, ix_tup, decide_eq_true_eq, decide_eq_false_iff_not]
    refine commonC (k := 11) TA.of hn1 hn hm hA nx fun _ => ?_
    rw [hD]
    rw [ws_cons]
    simp only [ws_ife, ws_set, ws_sub, ws_ret_, ws_expr, ws_pass, ws_retn, ws_brk, ws_cnt, x_cmp, x_cmp2, x_ix, x_int, x_bl, x_str, x_non, x_npart, x_bin, x_neg, x_not, x_and, x_or, x_ife, x_lst, x_tup, x_call, x_bi, x_thaw, x_glob, ws_nilE, ws_consE, y_var, List.getElem?_cons_zero, List.getElem?_cons_succ, Option.some.injEq, exists_eq_left', List.set_cons_zero, List.set_cons_succ, c_gt, c_lt, c_le, c_ge, c_eq, c_ne, t_bl, t_int, n_add, n_sub, n_mul, n_mod, n_fdiv, n_pow, n_neg, ix_lst, ix_tup, decide_eq_true_eq, decide_eq_false_iff_not]
    refine whole (k := 13) ?_
    simp only [ws_ife, ws_set, ws_sub, ws_ret_, ws_expr, ws_pass, ws_retn, ws_brk, ws_cnt, x_cmp, x_cmp2, x_ix, x_int, x_bl, x_str, x_non, x_npart, x_bin, x_neg, x_not, x_and, x_or, x_ife, x_lst, x_tup, x_call, x_bi, x_thaw, x_glob, ws_nilE, ws_consE, y_var, List.getElem?_cons_zero, List.getElem?_cons_succ, Option.some.injEq, exists_eq_left', List.set_cons_zero, List.set_cons_succ, c_gt, c_lt, c_le, c_ge, c_eq, c_ne, t_bl, t_int, n_add, n_sub, n_mul, n_mod, n_fdiv, n_pow, n_neg, ix_lst, ix_tup, decide_eq_true_eq, decide_eq_false_iff_not, Bool.not_true]
    refine ⟨fun _ => ?_, fun z => absurd z (by decide)⟩
    refine law_common (k := 13) q__law_common rfl (r := due) rfl ?_
    simp only [ws_ife, ws_set, ws_sub, ws_ret_, ws_expr, ws_pass, ws_retn, ws_brk, ws_cnt, x_cmp, x_cmp2, x_ix, x_int, x_bl, x_str, x_non, x_npart, x_bin, x_neg, x_not, x_and, x_or, x_ife, x_lst, x_tup, x_call, x_bi, x_thaw, x_glob, ws_nilE, ws_consE, y_var, List.getElem?_cons_zero, List.getElem?_cons_succ, Option.some.injEq, exists_eq_left', List.set_cons_zero, List.set_cons_succ, c_gt, c_lt, c_le, c_ge, c_eq, c_ne, t_bl, t_int, n_add, n_sub, n_mul, n_mod, n_fdiv, n_pow, n_neg, ix_lst, ix_tup, decide_eq_true_eq, decide_eq_false_iff_not, ws_nil]
    refine ⟨fun z => absurd rfl z, fun _ => ?_⟩
    rw [ws_cons, ws_set, x_lc, i_exD]
    have c4 : srcIt μ' (tabD n m A) = some (.data (genL n fun i => .lst (rowL m (A i)))) := rfl
    simp only [ws_ife, ws_set, ws_sub, ws_ret_, ws_expr, ws_pass, ws_retn, ws_brk, ws_cnt, x_cmp, x_cmp2, x_ix, x_int, x_bl, x_str, x_non, x_npart, x_bin, x_neg, x_not, x_and, x_or, x_ife, x_lst, x_tup, x_call, x_bi, x_thaw, x_glob, ws_nilE, ws_consE, y_var, List.getElem?_cons_zero, List.getElem?_cons_succ, Option.some.injEq, exists_eq_left', List.set_cons_zero, List.set_cons_succ, c_gt, c_lt, c_le, c_ge, c_eq, c_ne, t_bl, t_int, n_add, n_sub, n_mul, n_mod, n_fdiv, n_pow, n_neg, ix_lst, ix_tup, decide_eq_true_eq, decide_eq_false_iff_not, c4]
    refine wp_lcGen (n := n) (g := fun i => .lst (rowL m (A i))) (h := fun i => .lst (rowL m fun j => A i (m - 1 - j))) (fun i => src_data i) rfl (size_small (by omega)) (fun i hi => ?_) ?_
    · simp only [ws_ife, ws_set, ws_sub, ws_ret_, ws_expr, ws_pass, ws_retn, ws_brk, ws_cnt, x_cmp, x_cmp2, x_ix, x_int, x_bl, x_str, x_non, x_npart, x_bin, x_neg, x_not, x_and, x_or, x_ife, x_lst, x_tup, x_call, x_bi, x_thaw, x_glob, ws_nilE, ws_consE, y_var, List.getElem?_cons_zero, List.getElem?_cons_succ, Option.some.injEq, exists_eq_left', List.set_cons_zero, List.set_cons_succ, c_gt, c_lt, c_le, c_ge, c_eq, c_ne, t_bl, t_int, n_add, n_sub, n_mul, n_mod, n_fdiv, n_pow, n_neg, ix_lst, ix_tup, decide_eq_true_eq, decide_eq_false_iff_not, lc_name, wipe1, Bool.true_eq_false, false_implies, and_true, true_implies, x_rev]
      refine ⟨_, rfl, trivial, ?_⟩
      rw [genL_rev]
    have hA2 : ∀ i j, i < n → j < m → ((fun i j => A i (m - 1 - j)) i j).natAbs ≤ 2 ^ 200 := fun i j hi hj => hA i _ hi (by omega)
    rw [ws_cons, ws_set, x_bi, ws_consE, x_lc, i_exD]
    simp only [ws_ife, ws_set, ws_sub, ws_ret_, ws_expr, ws_pass, ws_retn, ws_brk, ws_cnt, x_cmp, x_cmp2, x_ix, x_int, x_bl, x_str, x_non, x_npart, x_bin, x_neg, x_not, x_and, x_or, x_ife, x_lst, x_tup, x_call, x_bi, x_thaw, x_glob, ws_nilE, ws_consE, y_var, List.getElem?_cons_zero, List.getElem?_cons_succ, Option.some.injEq, exists_eq_left', List.set_cons_zero, List.set_cons_succ, c_gt, c_lt, c_le, c_ge, c_eq, c_ne, t_bl, t_int, n_add, n_sub, n_mul, n_mod, n_fdiv, n_pow, n_neg, ix_lst, ix_tup, decide_eq_true_eq, decide_eq_false_iff_not]
    refine partsC (k := 12) (A := fun i j => A i (m - 1 - j)) TA.of hn1 hn hm hA2 nx fun _ => ?_
    refine ⟨_, rfl, ?_⟩
    refine sizes rfl (few hn hm) ?_
    rw [bi_sorted, List.length_map]
    refine ⟨few hn hm, ?_⟩
    simp only [ws_cons, ws_nil]
    have hpm := parts_mir (n := n) (m := m) (A := A)
    rw [hD] at hpm
    have hsort : sortL ((partsL n m fun i j => A i (m - 1 - j)).map fun z => (z.natAbs : Int)) = sortL (due.map fun z => (z.natAbs : Int)) := by
      refine sort_perm ?_
      have := hpm.map (fun x : Nat => (x : Int))
      rw [List.map_map, List.map_map] at this
      exact this
    rw [ws_ife, x_or, x_cmp]
    simp only [ws_ife, ws_set, ws_sub, ws_ret_, ws_expr, ws_pass, ws_retn, ws_brk, ws_cnt, x_cmp, x_cmp2, x_ix, x_int, x_bl, x_str, x_non, x_npart, x_bin, x_neg, x_not, x_and, x_or, x_ife, x_lst, x_tup, x_call, x_bi, x_thaw, x_glob, ws_nilE, ws_consE, y_var, List.getElem?_cons_zero, List.getElem?_cons_succ, Option.some.injEq, exists_eq_left', List.set_cons_zero, List.set_cons_succ, c_gt, c_lt, c_le, c_ge, c_eq, c_ne, t_bl, t_int, n_add, n_sub, n_mul, n_mod, n_fdiv, n_pow, n_neg, ix_lst, ix_tup, decide_eq_true_eq, decide_eq_false_iff_not, x_lc, i_exD]
    refine ⟨_, rfl, ?_⟩
    refine sizes rfl hlen ?_
    rw [bi_sorted, List.length_map]
    refine ⟨hlen, ?_⟩
    have ns0 : ∀ ν : Sto, cmpD .NotEq (.lst ((sortL ((partsL n m fun i j => A i (m - 1 - j)).map fun z => (z.natAbs : Int))).map .int)) (.lst ((sortL (due.map fun z => (z.natAbs : Int))).map .int)) ν = some false := fun ν => by
      rw [ne_ints (r := sortL ((partsL n m fun i j => A i (m - 1 - j)).map fun z => (z.natAbs : Int))) (s := sortL (due.map fun z => (z.natAbs : Int))) rfl rfl, decide_eq_true hsort]; rfl
    simp only [ns0, ws_ife, ws_set, ws_sub, ws_ret_, ws_expr, ws_pass, ws_retn, ws_brk, ws_cnt, x_cmp, x_cmp2, x_ix, x_int, x_bl, x_str, x_non, x_npart, x_bin, x_neg, x_not, x_and, x_or, x_ife, x_lst, x_tup, x_call, x_bi, x_thaw, x_glob, ws_nilE, ws_consE, y_var, List.getElem?_cons_zero, List.getElem?_cons_succ, Option.some.injEq, exists_eq_left', List.set_cons_zero, List.set_cons_succ, c_gt, c_lt, c_le, c_ge, c_eq, c_ne, t_bl, t_int, n_add, n_sub, n_mul, n_mod, n_fdiv, n_pow, n_neg, ix_lst, ix_tup, decide_eq_true_eq, decide_eq_false_iff_not]
    refine ⟨fun _ => ?_, fun z => absurd z (by decide)⟩
    refine commonC (k := 11) (A := fun i j => A i (m - 1 - j)) TA.of hn1 hn hm hA2 nx fun _ => ?_
    rw [gcd_perm hpm]
    simp only [ws_ife, ws_set, ws_sub, ws_ret_, ws_expr, ws_pass, ws_retn, ws_brk, ws_cnt, x_cmp, x_cmp2, x_ix, x_int, x_bl, x_str, x_non, x_npart, x_bin, x_neg, x_not, x_and, x_or, x_ife, x_lst, x_tup, x_call, x_bi, x_thaw, x_glob, ws_nilE, ws_consE, y_var, List.getElem?_cons_zero, List.getElem?_cons_succ, Option.some.injEq, exists_eq_left', List.set_cons_zero, List.set_cons_succ, c_gt, c_lt, c_le, c_ge, c_eq, c_ne, t_bl, t_int, n_add, n_sub, n_mul, n_mod, n_fdiv, n_pow, n_neg, ix_lst, ix_tup, decide_eq_true_eq, decide_eq_false_iff_not, ws_nil]
    exact ⟨fun z => absurd rfl z, fun _ => h _ _ _ _ _ _ _ _ _ _⟩
end
end Law

set_option Elab.async false
set_option maxRecDepth 10000
set_option autoImplicit false
set_option linter.unusedVariables false
set_option linter.unusedSimpArgs false
namespace Law
open PySem VM
open L2 (atI ixN)
section
variable {E : Exc → Sto → Prop} {n m p l k b B X N : Nat} {μ : Sto} {Q : VM.D × Nat → Sto → Prop} {A R M : Det.Mx} {d e : VM.D} {Nn Bk Ct : Ev → Sto → Prop} {Rt : VM.D → Nat → Sto → Prop} {X' : Exc → Ev → Sto → Prop}
theorem tabs {d : VM.D} (h : RowsR 200 n m d) : ∃ A : Det.Mx, d = tabD n m A ∧ ∀ i j, i < n → j < m → (A i j).natAbs ≤ 2 ^ 200 := by
  obtain ⟨A, e, hA⟩ := h.tab
  exact ⟨A, e, fun i j hi hj => Nat.le_of_lt (hA i j hi hj)⟩
abbrev sCopy (i j : Nat) : VM.E := .lc (.bi "list" (.cons (.var i) .nil)) (.name i) (.ex (.var j)) (.bl true) [i]
theorem copy {T : Tb} {ρ : Ev} {i j : Nat} (hij : i < ρ.length) (hj : ρ[j]? = some (some (tabD n m A))) (hn : n ≤ 400) (q : Q (tabD n m A, 1) μ) : Wp (evE T b (sCopy i j) ρ μ) Q E := by
  have c4 : srcIt μ (tabD n m A) = some (.data (genL n fun i => .lst (rowL m (A i)))) := rfl
  simp only [x_lc, i_exD, ws_ife, ws_set, ws_sub, ws_ret_, ws_expr, ws_pass, ws_retn, ws_brk, ws_cnt, x_cmp, x_cmp2, x_ix, x_int, x_bl, x_str, x_non, x_npart, x_bin, x_neg, x_not, x_and, x_or, x_ife, x_lst, x_tup, x_call, x_bi, x_thaw, x_glob, ws_nilE, ws_consE, y_var, List.getElem?_cons_zero, List.getElem?_cons_succ, Option.some.injEq, exists_eq_left', List.set_cons_zero, List.set_cons_succ, c_gt, c_lt, c_le, c_ge, c_eq, c_ne, t_bl, t_int, n_add, n_sub, n_mul, n_mod, n_fdiv, n_pow, n_neg, ix_lst, ix_tup, decide_eq_true_eq, decide_eq_false_iff_not, hj, c4]
  refine wp_lcGen (n := n) (g := fun i => .lst (rowL m (A i))) (h := fun i => .lst (rowL m (A i))) (fun i => src_data i) rfl (size_small (by omega)) (fun a ha => ?_) q
  have v1 : ∀ x : VM.D, ((wipeD ρ [i]).set i (some x))[i]? = some (some x) := fun x => by
    rw [wipe1, List.set_set]; exact List.getElem?_set_self hij
  simp only [ws_ife, ws_set, ws_sub, ws_ret_, ws_expr, ws_pass, ws_retn, ws_brk, ws_cnt, x_cmp, x_cmp2, x_ix, x_int, x_bl, x_str, x_non, x_npart, x_bin, x_neg, x_not, x_and, x_or, x_ife, x_lst, x_tup, x_call, x_bi, x_thaw, x_glob, ws_nilE, ws_consE, y_var, List.getElem?_cons_zero, List.getElem?_cons_succ, Option.some.injEq, exists_eq_left', List.set_cons_zero, List.set_cons_succ, c_gt, c_lt, c_le, c_ge, c_eq, c_ne, t_bl, t_int, n_add, n_sub, n_mul, n_mod, n_fdiv, n_pow, n_neg, ix_lst, ix_tup, decide_eq_true_eq, decide_eq_false_iff_not, lc_name, v1, Bool.true_eq_false, false_implies, and_true, true_implies]
  rw [bi_list (xs := rowL m (A a)) rfl]
  exact ⟨rfl, rfl⟩
theorem law_0 {ns : List Int} (hns : ns.length ≤ 63) (hn : ∀ o1 o2 o3 o4 o5 o6 o7 o8 o9 o10 o11 o12 o13 μ', Nn (evL ns o1 o2 o3 o4 o5 o6 o7 o8 o9 o10 o11 o12 o13) μ') :
    Ws (runS (tb P 14) b s_law_0 (evL ns none none none none none none none none none none none none none) μ) Nn Rt Bk Ct X' := by
  unfold s_law_0
  refine ws_for ?_
  simp only [evL, ws_ife, ws_set, ws_sub, ws_ret_, ws_expr, ws_pass, ws_retn, ws_brk, ws_cnt, x_cmp, x_cmp2, x_ix, x_int, x_bl, x_str, x_non, x_npart, x_bin, x_neg, x_not, x_and, x_or, x_ife, x_lst, x_tup, x_call, x_bi, x_thaw, x_glob, ws_nilE, ws_consE, y_var, List.getElem?_cons_zero, List.getElem?_cons_succ, Option.some.injEq, exists_eq_left', List.set_cons_zero, List.set_cons_succ, c_gt, c_lt, c_le, c_ge, c_eq, c_ne, t_bl, t_int, n_add, n_sub, n_mul, n_mod, n_fdiv, n_pow, n_neg, ix_lst, ix_tup, decide_eq_true_eq, decide_eq_false_iff_not, i_exD, x_slc, sl_scr, partD, add_val, List.length_cons, List.length_nil]
  have cl := (cut_sub (xs := ns.map VM.D.int) (lo := none) (hi := some 4)).1
  rw [List.length_map] at cl
  refine ⟨by decide, Nat.le_of_lt (szr (by omega)), _, rfl, _, fun k ρ' μ' => ∃ o1 o2 o3 o4 o5 o6 o7 o8 o9 o10 o11 o12 o13, ρ' = evL ns o1 o2 o3 o4 o5 o6 o7 o8 o9 o10 o11 o12 o13, fun _ _ _ _ => src_data _, by rfl, ⟨_, _, _, _, _, _, _, _, _, _, _, _, _, rfl⟩, fun k x ρ' μ1 hx hI => ?_, fun ρ' μ' hI => ?_⟩
  · obtain ⟨o1, o2, o3, o4, o5, o6, o7, o8, o9, o10, o11, o12, o13, rfl⟩ := hI
    have hz : ∃ z : Int, x = .int z := by
      have hm := List.mem_of_getElem? hx
      rcases List.mem_append.mp hm with hm | hm
      · exact ⟨0, by simpa using hm⟩
      · exact cut_ints x hm
    obtain ⟨z, rfl⟩ := hz
    try simp only [evL, ws_ife, ws_set, ws_sub, ws_ret_, ws_expr, ws_pass, ws_retn, ws_brk, ws_cnt, x_cmp, x_cmp2, x_ix, x_int, x_bl, x_str, x_non, x_npart, x_bin, x_neg, x_not, x_and, x_or, x_ife, x_lst, x_tup, x_call, x_bi, x_thaw, x_glob, ws_nilE, ws_consE, y_var, List.getElem?_cons_zero, List.getElem?_cons_succ, Option.some.injEq, exists_eq_left', List.set_cons_zero, List.set_cons_succ, c_gt, c_lt, c_le, c_ge, c_eq, c_ne, t_bl, t_int, n_add, n_sub, n_mul, n_mod, n_fdiv, n_pow, n_neg, ix_lst, ix_tup, decide_eq_true_eq, decide_eq_false_iff_not]
    rw [ws_cons]
    simp only [ws_ife, ws_set, ws_sub, ws_ret_, ws_expr, ws_pass, ws_retn, ws_brk, ws_cnt, x_cmp, x_cmp2, x_ix, x_int, x_bl, x_str, x_non, x_npart, x_bin, x_neg, x_not, x_and, x_or, x_ife, x_lst, x_tup, x_call, x_bi, x_thaw, x_glob, ws_nilE, ws_consE, y_var, List.getElem?_cons_zero, List.getElem?_cons_succ, Option.some.injEq, exists_eq_left', List.set_cons_zero, List.set_cons_succ, c_gt, c_lt, c_le, c_ge, c_eq, c_ne, t_bl, t_int, n_add, n_sub, n_mul, n_mod, n_fdiv, n_pow, n_neg, ix_lst, ix_tup, decide_eq_true_eq, decide_eq_false_iff_not]
    refine deck (n := 13) q__law_deck fun a c c0 c1 => ?_
    refine ⟨_, 0, rfl, ?_⟩
    have dk : Dk (μ1 ++ [.lst [.int a, .int c, .int 0]]) μ1.length 0 := ⟨a, c, 0, by rw [List.getElem?_append_right (Nat.le_refl _)]; simp, c0, c1, by decide, by decide⟩
    generalize μ1.length = l at dk ⊢
    generalize μ1 ++ [C.lst [.int a, .int c, .int 0]] = ν at dk ⊢
    rw [ws_cons]
    simp only [ws_ife, ws_set, ws_sub, ws_ret_, ws_expr, ws_pass, ws_retn, ws_brk, ws_cnt, x_cmp, x_cmp2, x_ix, x_int, x_bl, x_str, x_non, x_npart, x_bin, x_neg, x_not, x_and, x_or, x_ife, x_lst, x_tup, x_call, x_bi, x_thaw, x_glob, ws_nilE, ws_consE, y_var, List.getElem?_cons_zero, List.getElem?_cons_succ, Option.some.injEq, exists_eq_left', List.set_cons_zero, List.set_cons_succ, c_gt, c_lt, c_le, c_ge, c_eq, c_ne, t_bl, t_int, n_add, n_sub, n_mul, n_mod, n_fdiv, n_pow, n_neg, ix_lst, ix_tup, decide_eq_true_eq, decide_eq_false_iff_not]
    refine pick (n := 13) q__law_pick dk (by decide) (by decide) (by decide) fun r1 ν1 a0 a1 d1 f1 => ?_
    simp only [ws_ife, ws_set, ws_sub, ws_ret_, ws_expr, ws_pass, ws_retn, ws_brk, ws_cnt, x_cmp, x_cmp2, x_ix, x_int, x_bl, x_str, x_non, x_npart, x_bin, x_neg, x_not, x_and, x_or, x_ife, x_lst, x_tup, x_call, x_bi, x_thaw, x_glob, ws_nilE, ws_consE, y_var, List.getElem?_cons_zero, List.getElem?_cons_succ, Option.some.injEq, exists_eq_left', List.set_cons_zero, List.set_cons_succ, c_gt, c_lt, c_le, c_ge, c_eq, c_ne, t_bl, t_int, n_add, n_sub, n_mul, n_mod, n_fdiv, n_pow, n_neg, ix_lst, ix_tup, decide_eq_true_eq, decide_eq_false_iff_not]
    refine pick (n := 13) q__law_pick d1 (by decide) (by decide) (by decide) fun r2 ν2 b0 b1 d2 f2 => ?_
    simp only [ws_ife, ws_set, ws_sub, ws_ret_, ws_expr, ws_pass, ws_retn, ws_brk, ws_cnt, x_cmp, x_cmp2, x_ix, x_int, x_bl, x_str, x_non, x_npart, x_bin, x_neg, x_not, x_and, x_or, x_ife, x_lst, x_tup, x_call, x_bi, x_thaw, x_glob, ws_nilE, ws_consE, y_var, List.getElem?_cons_zero, List.getElem?_cons_succ, Option.some.injEq, exists_eq_left', List.set_cons_zero, List.set_cons_succ, c_gt, c_lt, c_le, c_ge, c_eq, c_ne, t_bl, t_int, n_add, n_sub, n_mul, n_mod, n_fdiv, n_pow, n_neg, ix_lst, ix_tup, decide_eq_true_eq, decide_eq_false_iff_not]
    obtain ⟨n, hn1, hn6, e⟩ : ∃ n : Nat, 1 ≤ n ∧ n ≤ 6 ∧ 1 + r1 = (n : Int) := ⟨(1 + r1).toNat, by omega, by omega, by omega⟩
    obtain ⟨m, hm1, hm6, e'⟩ : ∃ n : Nat, 1 ≤ n ∧ n ≤ 6 ∧ 1 + r2 = (n : Int) := ⟨(1 + r2).toNat, by omega, by omega, by omega⟩
    rw [e, e']
    refine rows (n := 11) dr hn1 (by omega) hm1 (by omega) d2 (by decide) fun rd _ ν3 hr d3 f3 => ?_
    obtain ⟨A, rfl, hA⟩ := tabs hr
    simp only [ws_ife, ws_set, ws_sub, ws_ret_, ws_expr, ws_pass, ws_retn, ws_brk, ws_cnt, x_cmp, x_cmp2, x_ix, x_int, x_bl, x_str, x_non, x_npart, x_bin, x_neg, x_not, x_and, x_or, x_ife, x_lst, x_tup, x_call, x_bi, x_thaw, x_glob, ws_nilE, ws_consE, y_var, List.getElem?_cons_zero, List.getElem?_cons_succ, Option.some.injEq, exists_eq_left', List.set_cons_zero, List.set_cons_succ, c_gt, c_lt, c_le, c_ge, c_eq, c_ne, t_bl, t_int, n_add, n_sub, n_mul, n_mod, n_fdiv, n_pow, n_neg, ix_lst, ix_tup, decide_eq_true_eq, decide_eq_false_iff_not]
    rw [ws_cons, ws_set]
    refine copy (by show 11 < 14; decide) rfl (by omega) ?_
    have i0 : atI (genL n fun i => VM.D.lst (rowL m (A i))) 0 = some (.lst (rowL m (A 0))) := by rw [genL_atI (by decide) (by omega)]; rfl
    have l0 : ∀ (Q : VM.D × Nat → Sto → Prop) (E : Exc → Sto → Prop), Wp (biD "len" [.lst (rowL m (A 0))] ν3) Q E ↔ Q (.int m, 0) ν3 := fun Q E => by rw [bi_len (xs := rowL m (A 0)) rfl, genL_len]
    have l1 : ∀ (Q : VM.D × Nat → Sto → Prop) (E : Exc → Sto → Prop), Wp (biD "len" [tabD n m A] ν3) Q E ↔ Q (.int n, 0) ν3 := fun Q E => (TA.of (μ := ν3) (A := A)).blen
    simp only [ws_ife, ws_set, ws_sub, ws_ret_, ws_expr, ws_pass, ws_retn, ws_brk, ws_cnt, x_cmp, x_cmp2, x_ix, x_int, x_bl, x_str, x_non, x_npart, x_bin, x_neg, x_not, x_and, x_or, x_ife, x_lst, x_tup, x_call, x_bi, x_thaw, x_glob, ws_nilE, ws_consE, y_var, List.getElem?_cons_zero, List.getElem?_cons_succ, Option.some.injEq, exists_eq_left', List.set_cons_zero, List.set_cons_succ, c_gt, c_lt, c_le, c_ge, c_eq, c_ne, t_bl, t_int, n_add, n_sub, n_mul, n_mod, n_fdiv, n_pow, n_neg, ix_lst, ix_tup, decide_eq_true_eq, decide_eq_false_iff_not]
    rw [ws_cons]
    simp only [ws_ife, ws_set, ws_sub, ws_ret_, ws_expr, ws_pass, ws_retn, ws_brk, ws_cnt, x_cmp, x_cmp2, x_ix, x_int, x_bl, x_str, x_non, x_npart, x_bin, x_neg, x_not, x_and, x_or, x_ife, x_lst, x_tup, x_call, x_bi, x_thaw, x_glob, ws_nilE, ws_consE, y_var, List.getElem?_cons_zero, List.getElem?_cons_succ, Option.some.injEq, exists_eq_left', List.set_cons_zero, List.set_cons_succ, c_gt, c_lt, c_le, c_ge, c_eq, c_ne, t_bl, t_int, n_add, n_sub, n_mul, n_mod, n_fdiv, n_pow, n_neg, ix_lst, ix_tup, decide_eq_true_eq, decide_eq_false_iff_not, i0, l0, l1]
    refine ⟨fun hgt => ?_, fun hle => ?_⟩
    · refine refused hn1 hn6 hm6 (by omega) hA ?_
      rw [ws_nil]
      exact ⟨_, _, _, _, _, _, _, _, _, _, _, _, _, rfl⟩
    · refine due_ok hn1 hn6 hm6 hm1 (by omega) hA fun _ _ _ _ _ _ _ _ _ _ => ?_
      rw [ws_nil]
      exact ⟨_, _, _, _, _, _, _, _, _, _, _, _, _, rfl⟩
  · obtain ⟨o1, o2, o3, o4, o5, o6, o7, o8, o9, o10, o11, o12, o13, rfl⟩ := hI
    exact hn _ _ _ _ _ _ _ _ _ _ _ _ _ _
end
theorem run_law : ∀ ns : List Int, ns.length ≤ 63 → (∀ z ∈ ns, Builtin.Int.intBits z ≤ 1048576) → ∃ f μ, runFn (tb (pgOf tab glob) 14) (lawFn (tab.map (·.x)) d_law) 0 [.scr ns] [] = .ok (.bl true, f) μ := by
  intro ns hns _
  have h : Wp (runFn (tb P 14) f_law 0 [.scr ns] []) (fun d _ => d.1 = .bl true) NoX := by
    refine (wp_run (by rfl)).mpr ?_
    unfold b_law s_law_1
    simp only [List.map_cons, List.map_nil, List.replicate, List.cons_append, List.nil_append]
    rw [ws_cons]
    refine law_0 hns fun o1 o2 o3 o4 o5 o6 o7 o8 o9 o10 o11 o12 o13 μ' => ?_
    simp only [evL, ws_cons, ws_nil, ws_ife, ws_set, ws_sub, ws_ret_, ws_expr, ws_pass, ws_retn, ws_brk, ws_cnt, x_cmp, x_cmp2, x_ix, x_int, x_bl, x_str, x_non, x_npart, x_bin, x_neg, x_not, x_and, x_or, x_ife, x_lst, x_tup, x_call, x_bi, x_thaw, x_glob, ws_nilE, ws_consE, y_var, List.getElem?_cons_zero, List.getElem?_cons_succ, Option.some.injEq, exists_eq_left', List.set_cons_zero, List.set_cons_succ, c_gt, c_lt, c_le, c_ge, c_eq, c_ne, t_bl, t_int, n_add, n_sub, n_mul, n_mod, n_fdiv, n_pow, n_neg, ix_lst, ix_tup, decide_eq_true_eq, decide_eq_false_iff_not]
    exact ⟨_, rfl, rfl⟩
  show ∃ f μ, runFn (tb P 14) (lawFn nms d_law) 0 [.scr ns] [] = .ok (.bl true, f) μ
  rw [e_law]
  cases q : runFn (tb P 14) f_law 0 [.scr ns] [] with
  | ok d ν =>
    rw [q] at h
    obtain ⟨d, f⟩ := d
    have h : d = .bl true := wp_ok.mp h
    exact ⟨f, ν, by rw [h]⟩
  | err x ν => rw [q] at h; exact (wp_err.mp h).elim
  | bad => rw [q] at h; exact (wp_bad.mp h).elim
end Law

set_option Elab.async false
set_option maxRecDepth 100000
set_option linter.all false
set_option autoImplicit false

namespace Law
open PySem PySem.Spec PyProof.Rows L2 VM VMH
abbrev nmS : Stmt := top 22
theorem sc_nm : FnScope ["e", "kinds", "names", "name", "kind"] ["e"] (defScope nmS) := ⟨rfl, rfl, rfl, by decide +kernel, rfl, by decide +kernel, by decide +kernel⟩
section
variable {X : Cx} {a Da : Addr} {oe : Obj} {b0 b1 b2 b3 b4 b5 b6 b7 b8 b9 : Bool}
abbrev nmN : List Str := ["NoMatch", "NoNumber", "NoRow", "NoSize", "NoStep", "NoText", "NothingLeft", "NoWorth", "TooMany", "+"]
theorem nm_body (hsc : X.env.scope = defScope nmS) (hN : X.N = (["e", "kinds", "names", "name", "kind"] : List Str)) (hot : HotAll X a oe) (hz : Zc (.ref Da) none oe) (nk : NmOk X.K X.mg Da [b0, b1, b2, b3, b4, b5, b6, b7, b8, b9]) (mi : X.mg "isinstance" = none) (mz : X.mg "zip" = none) (mv : X.mg "ValueError" = none) :
    ∃ t, PSs X (defBody nmS) t ∧ ∀ (D : L2.Ends) (H : Hp), (∀ H', Same H H' → D.rt (.str (Txt.join "" (pickN nmN [b0, b1, b2, b3, b4, b5, b6, b7, b8, b9]))) H') → t D [some (.ref a), none, none, none, none] H := by
  obtain ⟨C, hl, hc, hve⟩ := nk
  have nd : X.N.Nodup := by rw [hN]; decide
  obtain ⟨C0, g0, k0⟩ := hc 0 "NoMatch" (by decide) rfl
  obtain ⟨C1, g1, k1⟩ := hc 1 "NoNumber" (by decide) rfl
  obtain ⟨C2, g2, k2⟩ := hc 2 "NoRow" (by decide) rfl
  obtain ⟨C3, g3, k3⟩ := hc 3 "NoSize" (by decide) rfl
  obtain ⟨C4, g4, k4⟩ := hc 4 "NoStep" (by decide) rfl
  obtain ⟨C5, g5, k5⟩ := hc 5 "NoText" (by decide) rfl
  obtain ⟨C6, g6, k6⟩ := hc 6 "NothingLeft" (by decide) rfl
  obtain ⟨C7, g7, k7⟩ := hc 7 "NoWorth" (by decide) rfl
  obtain ⟨C8, g8, k8⟩ := hc 8 "TooMany" (by decide) rfl
  have gl : ∀ x : Str, (defScope nmS).names.lookup x = some .globalImplicit → Gl X x := fun x h => by show X.env.scope.names.lookup x = _; rw [hsc]; exact h
  have lo : ∀ x : Str, (defScope nmS).names.lookup x = some .local → X.env.scope.names.lookup x = some .local := fun x h => by rw [hsc]; exact h
  have n0 : X.N[0]? = some ("e" : Str) := by rw [hN]; rfl
  have n1 : X.N[1]? = some ("kinds" : Str) := by rw [hN]; rfl
  have n2 : X.N[2]? = some ("names" : Str) := by rw [hN]; rfl
  have n3 : X.N[3]? = some ("name" : Str) := by rw [hN]; rfl
  have n4 : X.N[4]? = some ("kind" : Str) := by rw [hN]; rfl
  have ge := lo "e" (by rfl)
  have gk := lo "kinds" (by rfl)
  have gn := lo "names" (by rfl)
  have gi := gl "isinstance" (by rfl)
  have is : ∀ {y : Str} {Cy : Addr} {b : Bool} {p p2 p3 pos : Pos}, X.mg y = some (.ref Cy) → PySem.W.kitOne X.K (.ref Da) (.ref Cy) = some b → (defScope nmS).names.lookup y = some .globalImplicit → (y == ("__debug__" : Str)) = false →
      PE X (.Call (.Name "isinstance" p) [.Name "e" p2, .Name y p3] [] pos) (fun σ H Q => σ[0]? = some (some (.ref a)) ∧ Q (.bl b) H) := fun {y Cy b p p2 p3 pos} hy hk hg hd =>
    pe_is (c := .ref Cy) hot C hz hk (pe_glob (gl y hg) hy rfl hd) (fun u r => r) gi mi n0 (.inl ge) (by decide) (by decide)
  have ve : ∀ {p p2 p3 pos : Pos}, PE X (.Call (.Name "isinstance" p) [.Name "e" p2, .Name "ValueError" p3] [] pos) (fun σ H Q => σ[0]? = some (some (.ref a)) ∧ Q (.bl b9) H) := fun {p p2 p3 pos} =>
    pe_is (c := .ty "ValueError") hot C hz hve (pe_bltn (gl "ValueError" (by rfl)) mv (by decide +kernel) rfl) (fun u r => r) gi mi n0 (.inl ge) (by decide) (by decide)
  refine ⟨_, pss_cons (ps_asg (pe_lst (pa_is1 (is g0 k0 (by rfl) (by decide)) (pa_is1 (is g1 k1 (by rfl) (by decide)) (pa_is1 (is g2 k2 (by rfl) (by decide)) (pa_is1 (is g3 k3 (by rfl) (by decide)) pa_is0 rfl) rfl) rfl) rfl)) (pg_name nd n1 (.inl gk) (.inr gk)) (sw_sole rfl) ss_sole)
    (pss_cons (ps_asg (pe_op op_catR (pe_var n1 (.inl gk) (by decide) (by decide)) (pe_lst (pa_is1 (is g4 k4 (by rfl) (by decide)) (pa_is1 (is g5 k5 (by rfl) (by decide)) (pa_is1 (is g6 k6 (by rfl) (by decide)) pa_is0 rfl) rfl) rfl))) (pg_name nd n1 (.inl gk) (.inr gk)) (sw_sole rfl) ss_sole)
    (pss_cons (ps_asg (pe_op op_catR (pe_var n1 (.inl gk) (by decide) (by decide)) (pe_lst (pa_is1 (is g7 k7 (by rfl) (by decide)) (pa_is1 (is g8 k8 (by rfl) (by decide)) (pa_is1 ve pa_is0 rfl) rfl) rfl))) (pg_name nd n1 (.inl gk) (.inr gk)) (sw_sole rfl) ss_sole)
    (pss_cons (ps_asg (pe_lst (pa_cons pe_str (pa_cons pe_str (pa_cons pe_str (pa_cons pe_str (pa_cons pe_str (pa_cons pe_str (pa_cons pe_str (pa_cons pe_str (pa_cons pe_str (pa_cons pe_str pa_nil))))))))))) (pg_name nd n2 (.inl gn) (.inr gn)) (sw_sole rfl) ss_sole)
    (pss_one (ps_ret (pe_join pe_str (pe_lcX (own := [("name", 3), ("kind", 4)]) (g := gTup X.K 2 (gCons (gName 3) (gCons (gName 4) gNil))) (tt := fun σ H Q => tVar 4 σ H fun x H' => ∃ k, TruV X.K x H' k ∧ Q k H') (te := tVar 3) hot nd (gl "zip" (by rfl)) mz (pa_cons (pe_var n2 (.inl gn) (by decide) (by decide)) (pa_cons (pe_var n1 (.inl gk) (by decide) (by decide)) pa_nil)) rfl rfl ?ok ?hg ?ht ?he)))))))
    , ?fin⟩
  case ok => exact (show BlkOk _ _ _ _ by rw [hsc, hN]; exact blkOk_by (by decide +kernel))
  case hg =>
    intro s H C cl fp hb
    exact pg_tupX hb (pgs_cons (pg_name (i := 3) nd n3 (.inl (by show (compEnvC _ cl C X.env).scope.names.lookup _ = _; rw [names_rel (by rw [hsc]; rfl)]; exact rel_local (by rfl))) (.inr (by show (compEnvC _ cl C X.env).scope.names.lookup _ = _; rw [names_rel (by rw [hsc]; rfl)]; exact rel_local (by rfl)))) (pgs_cons (pg_name (i := 4) nd n4 (.inl (by show (compEnvC _ cl C X.env).scope.names.lookup _ = _; rw [names_rel (by rw [hsc]; rfl)]; exact rel_local (by rfl))) (.inr (by show (compEnvC _ cl C X.env).scope.names.lookup _ = _; rw [names_rel (by rw [hsc]; rfl)]; exact rel_local (by rfl)))) pgs_nil)) rfl rfl
  case ht =>
    intro s H C cl fp
    exact pts_one (pt_truth (pe_var (i := 4) n4 (.inl (by show (compEnvC _ cl C X.env).scope.names.lookup _ = _; rw [names_rel (by rw [hsc]; rfl)]; exact rel_local (by rfl))) (by decide) (by decide)) fun _ => rfl)
  case he =>
    intro s H C cl fp
    exact pe_var (i := 3) n3 (.inl (by show (compEnvC _ cl C X.env).scope.names.lookup _ = _; rw [names_rel (by rw [hsc]; rfl)]; exact rel_local (by rfl))) (by decide) (by decide)
  case fin =>
    intro D H hD
    refine ⟨rfl, show 4 ≤ sizeLine by decide, fun p np => ?_⟩
    refine ⟨_, rfl, rfl, show 3 ≤ sizeLine by decide, fun p2 np2 => ⟨p, p2, [.bl b0, .bl b1, .bl b2, .bl b3], [.bl b4, .bl b5, .bl b6], rfl, rfl, .inl (.inl ?_), .inl (.inl upd_same), show 4 + 3 ≤ sizeLine by decide, fun p3 np3 => ?_⟩⟩
    · rw [upd_ne (ne_of_none upd_same np2)]; exact upd_same
    refine ⟨_, rfl, rfl, show 3 ≤ sizeLine by decide, fun p4 np4 => ⟨p3, p4, [.bl b0, .bl b1, .bl b2, .bl b3, .bl b4, .bl b5, .bl b6], [.bl b7, .bl b8, .bl b9], rfl, rfl, .inl (.inl ?_), .inl (.inl upd_same), show 7 + 3 ≤ sizeLine by decide, fun p5 np5 => ?_⟩⟩
    · rw [upd_ne (ne_of_none upd_same np4)]; exact upd_same
    refine ⟨by decide, fun p6 np6 => ?_⟩
    have sm : Same H (upd (upd (upd (upd (upd (upd H p (.lst [.bl b0, .bl b1, .bl b2, .bl b3])) p2 (.lst [.bl b4, .bl b5, .bl b6])) p3 (.lst [.bl b0, .bl b1, .bl b2, .bl b3, .bl b4, .bl b5, .bl b6])) p4 (.lst [.bl b7, .bl b8, .bl b9])) p5 (.lst [.bl b0, .bl b1, .bl b2, .bl b3, .bl b4, .bl b5, .bl b6, .bl b7, .bl b8, .bl b9])) p6 (.lst (nmN.map V.str))) :=
      fun x o e => same_new np6 _ _ (same_new np5 _ _ (same_new np4 _ _ (same_new np3 _ _ (same_new np2 _ _ (same_new np _ _ e)))))
    have h5 : (upd (upd (upd (upd (upd (upd H p (.lst [.bl b0, .bl b1, .bl b2, .bl b3])) p2 (.lst [.bl b4, .bl b5, .bl b6])) p3 (.lst [.bl b0, .bl b1, .bl b2, .bl b3, .bl b4, .bl b5, .bl b6])) p4 (.lst [.bl b7, .bl b8, .bl b9])) p5 (.lst [.bl b0, .bl b1, .bl b2, .bl b3, .bl b4, .bl b5, .bl b6, .bl b7, .bl b8, .bl b9])) p6 (.lst (nmN.map V.str))) p5 = some (.lst ([b0, b1, b2, b3, b4, b5, b6, b7, b8, b9].map V.bl)) := by
      rw [upd_ne (ne_of_none upd_same np6)]; exact upd_same
    exact nm_end ⟨rfl, by decide, by decide, rfl, rfl, by show 4 < 5; decide⟩ sm h5 upd_same hD
end
theorem nm_run {prog : Program} {w : World} {K : PySem.W.Frag} {mg : Str → Option Value} {base : Heap} {G : Gb} {fa : Addr} {fd : FuncData} (hm : mg "_law_name_of" = some (.ref fa)) (hk : PySem.W.keepIn K (.ref fa) = true) (F : Fun K "_law_name_of" "_law_name_of" nmS fa fd) (hb : Binds K fd ["e"] [])
    (mi : mg "isinstance" = none) (mz : mg "zip" = none) (mv : mg "ValueError" = none)
    (hc : ∀ c C, c ∈ excNames → G.f c = some (.ref C) → ∃ b0 b1 b2 b3 b4 b5 b6 b7 b8 b9, NmOk K mg C [b0, b1, b2, b3, b4, b5, b6, b7, b8, b9] ∧ Txt.join "" (pickN nmN [b0, b1, b2, b3, b4, b5, b6, b7, b8, b9]) = c ++ "+") : NameRun prog w K mg base G := by
  refine ⟨fa, fd, hm, hk, hb, fun c C hcm hC A outer s H args p hr hot hpin e0 hz hbt => ?_⟩
  obtain ⟨b0, b1, b2, b3, b4, b5, b6, b7, b8, b9, nk, hj⟩ := hc c C hcm hC
  obtain ⟨oc, od, kV, doc, pm, an, cdv, ct, osl, rfl, lk, hcd⟩ := F.ex
  have KX : K.In s.heap := e0.mod.kin.keeps fun b o e => (e0.bs b o e).1
  have lim : s.heap.NoLimit := e0.mod.nolimit.keeps fun b o e => (e0.bs b o e).1
  have hkind : ∀ y ∈ (["e"] : List Str).zip [Value.ref p.1], (defScope nmS).names.lookup y.1 = some .local ∨ ((defScope nmS).names.lookup y.1 = some .cell ∧ ((cellsFrom (s.heap.objs.size + 1) (defScope nmS).names []).lookup y.1).isSome = true) := fun ⟨n, v⟩ hy => by
    rcases sc_nm.par n (List.of_mem_zip hy).1 with q | q
    · exact .inl q
    · exact .inr ⟨q, PySem.W.cellsFrom_some _ _ _ (.inl q)⟩
  refine codeAny_call_function hr.depth (KX _ _ lk) rfl sc_nm.co sc_nm.gen rfl (PySem.W.codeRec_of KX hcd) (hbt _ _ _ _ ?_)
  refine wpAny_newFunctionEnv_cells sc_nm.kind hkind fun env he s1 x => ?_
  subst he
  refine ⟨lim.keeps x.toInCall.keep, codeAny_func ?_⟩
  obtain ⟨t, ht, hq⟩ := nm_body (X := L2H.cxH (L2N.CX prog w) prog w K mg base ["e", "kinds", "names", "name", "kind"] "_law_name_of" (defScope nmS) fa cdv A outer s H (fun _ _ _ => False) p) (a := p.1) (oe := p.2) rfl rfl (hot_cxH hot) hz nk mi mz mv
  have I := L2H.inv_startH (CX := L2N.CX prog w) (P := prog) (w := w) (K := K) (mg := mg) (base := base) (qual := "_law_name_of") (f := fa) (cd := cdv) (A := A) (outer := outer) (s := s) (H := H) (E := fun _ _ _ => False) (us := [.ref p.1]) (vs := [.ref p.1]) sc_nm hpin e0 rfl (.cons rfl .nil) x
  refine wpAny_mono (ht.run [] s1 _ H { nx := fun _ H' => V.non = .str (c ++ "+") ∧ Same H H', rt := fun v H' => v = .str (c ++ "+") ∧ Same H H' } I (hq _ H fun H' q => ⟨by rw [hj], q⟩)) (fun fl s' hs => ?_) fun e s' hs => hs
  cases fl with
  | ret u =>
    obtain ⟨v, σ', H', J, rv, q⟩ := hs
    exact ⟨v, H', J.os, J.bare, J.base, J.hok, rv, q⟩
  | next =>
    obtain ⟨σ', H', J, q⟩ := hs
    exact (nomatch q.1)
  | brk =>
    obtain ⟨_, _, _, q⟩ := hs
    exact False.elim q
  | cont =>
    obtain ⟨_, _, _, q⟩ := hs
    exact False.elim q
end Law

namespace Law
open PySem PySem.Spec PyProof.Rows L2 VM
theorem def_mk {K : PySem.W.Frag} {mg : Str → Option Value} {h : Heap} (X : K.In h) (Gn : h.Ns mainGlobals mg) {x : Str} {st : Stmt} {N ps : List Str} {f : Addr} {oc : Value} {od an : Option Addr} {osl : Array (Option Value)} {kV doc pm cdv ct : Value}
    (a : PySem.W.nsIn K mainGlobals x = some (some (.ref f))) (l : K.lookup f = some ⟨oc, od, .func (PySem.W.fnOf x x (defArgs st) (defBody st) (defScope st) .none kV doc pm an cdv ct), osl⟩) (c : PySem.W.codeIn K cdv x = true) (k : PySem.W.keepIn K (.ref f) = true)
    (b : ∀ (kV doc pm : Value) (an : Option Addr) (cdv ct : Value) (us : List Value), us.length = ps.length → bindArgs (PySem.W.fnOf x x (defArgs st) (defBody st) (defScope st) .none kV doc pm an cdv ct) ⟨us, []⟩ = pure (ps.zip us)) (sc : FnScope N ps (defScope st)) :
    ∃ fa fd, mg x = some (.ref fa) ∧ Fun K x x st fa fd ∧ Binds K fd ps [] ∧ FnScope N ps (defScope st) :=
  ⟨f, _, PySem.W.mg_of X Gn a, fun_mk l c k, (fun_mk l c k).binds b, sc⟩
theorem all_cons {α : Type} {p : α → Prop} {a : α} {l : List α} (h : p a) (t : ∀ x ∈ l, p x) : ∀ x ∈ a :: l, p x := List.forall_mem_cons.mpr ⟨h, t⟩
theorem all_nil {α : Type} {p : α → Prop} : ∀ x ∈ ([] : List α), p x := fun _ h => by cases h
def exF : List (Str × Addr) → Str → Option V
  | [], _ => none
  | (n, a) :: r, c => if c = n then some (.ref a) else exF r c
theorem exF_hit {n : Str} {a : Addr} {r : List (Str × Addr)} : exF ((n, a) :: r) n = some (.ref a) := if_pos rfl
theorem exF_miss {c n : Str} {a : Addr} {r : List (Str × Addr)} {v : Option V} (h : c ≠ n) (k : exF r c = v) : exF ((n, a) :: r) c = v := (if_neg h).trans k
theorem exF_inv {c : Str} {C : Addr} : ∀ {l : List (Str × Addr)}, exF l c = some (.ref C) → (c, C) ∈ l
  | [], h => by cases h
  | (n, a) :: r, h => by
    by_cases e : c = n
    · rw [e, exF_hit] at h; cases h; rw [e]; exact List.mem_cons_self
    · have h : (if c = n then some (.ref a) else exF r c) = some (.ref C) := h
      rw [if_neg e] at h; exact List.mem_cons_of_mem _ (exF_inv h)
theorem exF_in {c : Str} {v : V} : ∀ {l : List (Str × Addr)}, exF l c = some v → ∃ A, v = .ref A ∧ (c, A) ∈ l
  | [], h => by cases h
  | (n, a) :: r, h => by
    by_cases e : c = n
    · rw [e, exF_hit] at h; cases h; rw [e]; exact ⟨a, rfl, List.mem_cons_self⟩
    · have h : (if c = n then some (.ref a) else exF r c) = some v := h
      rw [if_neg e] at h
      obtain ⟨A, h1, h2⟩ := exF_in h
      exact ⟨A, h1, List.mem_cons_of_mem _ h2⟩
theorem sub_of {xs ys : List Str} (h : xs.all ys.contains = true) (c : Str) (k : xs.contains c = true) : ys.contains c = true := List.all_eq_true.mp h c (List.contains_iff_mem.mp k)
theorem sc_need_few : FnScope d_need_few.N d_need_few.ps (defScope d_need_few.st) := ⟨rfl, rfl, rfl, by decide +kernel, rfl, by decide +kernel, by decide +kernel⟩
theorem sc_worth_in : FnScope d_worth_in.N d_worth_in.ps (defScope d_worth_in.st) := ⟨rfl, rfl, rfl, by decide +kernel, rfl, by decide +kernel, by decide +kernel⟩
theorem sc_choices : FnScope d_choices.N d_choices.ps (defScope d_choices.st) := ⟨rfl, rfl, rfl, by decide +kernel, rfl, by decide +kernel, by decide +kernel⟩
theorem sc_parts : FnScope d_parts.N d_parts.ps (defScope d_parts.st) := ⟨rfl, rfl, rfl, by decide +kernel, rfl, by decide +kernel, by decide +kernel⟩
theorem sc_divisor : FnScope d_divisor.N d_divisor.ps (defScope d_divisor.st) := ⟨rfl, rfl, rfl, by decide +kernel, rfl, by decide +kernel, by decide +kernel⟩
theorem sc_common_of : FnScope d_common_of.N d_common_of.ps (defScope d_common_of.st) := ⟨rfl, rfl, rfl, by decide +kernel, rfl, by decide +kernel, by decide +kernel⟩
theorem sc_common_part : FnScope d_common_part.N d_common_part.ps (defScope d_common_part.st) := ⟨rfl, rfl, rfl, by decide +kernel, rfl, by decide +kernel, by decide +kernel⟩
theorem sc__law_deck : FnScope d__law_deck.N d__law_deck.ps (defScope d__law_deck.st) := ⟨rfl, rfl, rfl, by decide +kernel, rfl, by decide +kernel, by decide +kernel⟩
theorem sc__law_pick : FnScope d__law_pick.N d__law_pick.ps (defScope d__law_pick.st) := ⟨rfl, rfl, rfl, by decide +kernel, rfl, by decide +kernel, by decide +kernel⟩
theorem sc__law_number : FnScope d__law_number.N d__law_number.ps (defScope d__law_number.st) := ⟨rfl, rfl, rfl, by decide +kernel, rfl, by decide +kernel, by decide +kernel⟩
theorem sc__law_rows : FnScope d__law_rows.N d__law_rows.ps (defScope d__law_rows.st) := ⟨rfl, rfl, rfl, by decide +kernel, rfl, by decide +kernel, by decide +kernel⟩
theorem sc__law_whole : FnScope d__law_whole.N d__law_whole.ps (defScope d__law_whole.st) := ⟨rfl, rfl, rfl, by decide +kernel, rfl, by decide +kernel, by decide +kernel⟩
theorem sc__law_worth : FnScope d__law_worth.N d__law_worth.ps (defScope d__law_worth.st) := ⟨rfl, rfl, rfl, by decide +kernel, rfl, by decide +kernel, by decide +kernel⟩
theorem sc__law_choices : FnScope d__law_choices.N d__law_choices.ps (defScope d__law_choices.st) := ⟨rfl, rfl, rfl, by decide +kernel, rfl, by decide +kernel, by decide +kernel⟩
theorem sc__law_parts : FnScope d__law_parts.N d__law_parts.ps (defScope d__law_parts.st) := ⟨rfl, rfl, rfl, by decide +kernel, rfl, by decide +kernel, by decide +kernel⟩
theorem sc__law_common : FnScope d__law_common.N d__law_common.ps (defScope d__law_common.st) := ⟨rfl, rfl, rfl, by decide +kernel, rfl, by decide +kernel, by decide +kernel⟩
theorem sc__law_told : FnScope d__law_told.N d__law_told.ps (defScope d__law_told.st) := ⟨rfl, rfl, rfl, by decide +kernel, rfl, by decide +kernel, by decide +kernel⟩
theorem sc_law : FnScope d_law.N d_law.ps (defScope d_law.st) := ⟨rfl, rfl, rfl, by decide +kernel, rfl, by decide +kernel, by decide +kernel⟩
theorem all_mk {K : PySem.W.Frag} {mg : Str → Option Value} {h : Heap} {fa : Addr} (X : K.In h) (Gn : h.Ns mainGlobals mg) (hfa : mg "law" = some (.ref fa))
    {f_need_few : Addr} {oc_need_few : Value} {od_need_few an_need_few : Option Addr} {sl_need_few : Array (Option Value)} {kV_need_few dc_need_few pm_need_few cd_need_few ct_need_few : Value}
    (a_need_few : PySem.W.nsIn K mainGlobals "need_few" = some (some (.ref f_need_few))) (l_need_few : K.lookup f_need_few = some ⟨oc_need_few, od_need_few, .func (PySem.W.fnOf "need_few" "need_few" (defArgs (top 12)) (defBody (top 12)) (defScope (top 12)) .none kV_need_few dc_need_few pm_need_few an_need_few cd_need_few ct_need_few), sl_need_few⟩)
    (c_need_few : PySem.W.codeIn K cd_need_few "need_few" = true) (k_need_few : PySem.W.keepIn K (.ref f_need_few) = true)
    {f_worth_in : Addr} {oc_worth_in : Value} {od_worth_in an_worth_in : Option Addr} {sl_worth_in : Array (Option Value)} {kV_worth_in dc_worth_in pm_worth_in cd_worth_in ct_worth_in : Value}
    (a_worth_in : PySem.W.nsIn K mainGlobals "worth_in" = some (some (.ref f_worth_in))) (l_worth_in : K.lookup f_worth_in = some ⟨oc_worth_in, od_worth_in, .func (PySem.W.fnOf "worth_in" "worth_in" (defArgs (top 13)) (defBody (top 13)) (defScope (top 13)) .none kV_worth_in dc_worth_in pm_worth_in an_worth_in cd_worth_in ct_worth_in), sl_worth_in⟩)
    (c_worth_in : PySem.W.codeIn K cd_worth_in "worth_in" = true) (k_worth_in : PySem.W.keepIn K (.ref f_worth_in) = true)
    {f_choices : Addr} {oc_choices : Value} {od_choices an_choices : Option Addr} {sl_choices : Array (Option Value)} {kV_choices dc_choices pm_choices cd_choices ct_choices : Value}
    (a_choices : PySem.W.nsIn K mainGlobals "choices" = some (some (.ref f_choices))) (l_choices : K.lookup f_choices = some ⟨oc_choices, od_choices, .func (PySem.W.fnOf "choices" "choices" (defArgs (top 14)) (defBody (top 14)) (defScope (top 14)) .none kV_choices dc_choices pm_choices an_choices cd_choices ct_choices), sl_choices⟩)
    (c_choices : PySem.W.codeIn K cd_choices "choices" = true) (k_choices : PySem.W.keepIn K (.ref f_choices) = true)
    {f_parts : Addr} {oc_parts : Value} {od_parts an_parts : Option Addr} {sl_parts : Array (Option Value)} {kV_parts dc_parts pm_parts cd_parts ct_parts : Value}
    (a_parts : PySem.W.nsIn K mainGlobals "parts" = some (some (.ref f_parts))) (l_parts : K.lookup f_parts = some ⟨oc_parts, od_parts, .func (PySem.W.fnOf "parts" "parts" (defArgs (top 15)) (defBody (top 15)) (defScope (top 15)) .none kV_parts dc_parts pm_parts an_parts cd_parts ct_parts), sl_parts⟩)
    (c_parts : PySem.W.codeIn K cd_parts "parts" = true) (k_parts : PySem.W.keepIn K (.ref f_parts) = true)
    {f_divisor : Addr} {oc_divisor : Value} {od_divisor an_divisor : Option Addr} {sl_divisor : Array (Option Value)} {kV_divisor dc_divisor pm_divisor cd_divisor ct_divisor : Value}
    (a_divisor : PySem.W.nsIn K mainGlobals "divisor" = some (some (.ref f_divisor))) (l_divisor : K.lookup f_divisor = some ⟨oc_divisor, od_divisor, .func (PySem.W.fnOf "divisor" "divisor" (defArgs (top 16)) (defBody (top 16)) (defScope (top 16)) .none kV_divisor dc_divisor pm_divisor an_divisor cd_divisor ct_divisor), sl_divisor⟩)
    (c_divisor : PySem.W.codeIn K cd_divisor "divisor" = true) (k_divisor : PySem.W.keepIn K (.ref f_divisor) = true)
    {f_common_of : Addr} {oc_common_of : Value} {od_common_of an_common_of : Option Addr} {sl_common_of : Array (Option Value)} {kV_common_of dc_common_of pm_common_of cd_common_of ct_common_of : Value}
    (a_common_of : PySem.W.nsIn K mainGlobals "common_of" = some (some (.ref f_common_of))) (l_common_of : K.lookup f_common_of = some ⟨oc_common_of, od_common_of, .func (PySem.W.fnOf "common_of" "common_of" (defArgs (top 17)) (defBody (top 17)) (defScope (top 17)) .none kV_common_of dc_common_of pm_common_of an_common_of cd_common_of ct_common_of), sl_common_of⟩)
    (c_common_of : PySem.W.codeIn K cd_common_of "common_of" = true) (k_common_of : PySem.W.keepIn K (.ref f_common_of) = true)
    {f_common_part : Addr} {oc_common_part : Value} {od_common_part an_common_part : Option Addr} {sl_common_part : Array (Option Value)} {kV_common_part dc_common_part pm_common_part cd_common_part ct_common_part : Value}
    (a_common_part : PySem.W.nsIn K mainGlobals "common_part" = some (some (.ref f_common_part))) (l_common_part : K.lookup f_common_part = some ⟨oc_common_part, od_common_part, .func (PySem.W.fnOf "common_part" "common_part" (defArgs (top 18)) (defBody (top 18)) (defScope (top 18)) .none kV_common_part dc_common_part pm_common_part an_common_part cd_common_part ct_common_part), sl_common_part⟩)
    (c_common_part : PySem.W.codeIn K cd_common_part "common_part" = true) (k_common_part : PySem.W.keepIn K (.ref f_common_part) = true)
    {f__law_deck : Addr} {oc__law_deck : Value} {od__law_deck an__law_deck : Option Addr} {sl__law_deck : Array (Option Value)} {kV__law_deck dc__law_deck pm__law_deck cd__law_deck ct__law_deck : Value}
    (a__law_deck : PySem.W.nsIn K mainGlobals "_law_deck" = some (some (.ref f__law_deck))) (l__law_deck : K.lookup f__law_deck = some ⟨oc__law_deck, od__law_deck, .func (PySem.W.fnOf "_law_deck" "_law_deck" (defArgs (top 20)) (defBody (top 20)) (defScope (top 20)) .none kV__law_deck dc__law_deck pm__law_deck an__law_deck cd__law_deck ct__law_deck), sl__law_deck⟩)
    (c__law_deck : PySem.W.codeIn K cd__law_deck "_law_deck" = true) (k__law_deck : PySem.W.keepIn K (.ref f__law_deck) = true)
    {f__law_pick : Addr} {oc__law_pick : Value} {od__law_pick an__law_pick : Option Addr} {sl__law_pick : Array (Option Value)} {kV__law_pick dc__law_pick pm__law_pick cd__law_pick ct__law_pick : Value}
    (a__law_pick : PySem.W.nsIn K mainGlobals "_law_pick" = some (some (.ref f__law_pick))) (l__law_pick : K.lookup f__law_pick = some ⟨oc__law_pick, od__law_pick, .func (PySem.W.fnOf "_law_pick" "_law_pick" (defArgs (top 21)) (defBody (top 21)) (defScope (top 21)) .none kV__law_pick dc__law_pick pm__law_pick an__law_pick cd__law_pick ct__law_pick), sl__law_pick⟩)
    (c__law_pick : PySem.W.codeIn K cd__law_pick "_law_pick" = true) (k__law_pick : PySem.W.keepIn K (.ref f__law_pick) = true)
    {f__law_number : Addr} {oc__law_number : Value} {od__law_number an__law_number : Option Addr} {sl__law_number : Array (Option Value)} {kV__law_number dc__law_number pm__law_number cd__law_number ct__law_number : Value}
    (a__law_number : PySem.W.nsIn K mainGlobals "_law_number" = some (some (.ref f__law_number))) (l__law_number : K.lookup f__law_number = some ⟨oc__law_number, od__law_number, .func (PySem.W.fnOf "_law_number" "_law_number" (defArgs (top 23)) (defBody (top 23)) (defScope (top 23)) .none kV__law_number dc__law_number pm__law_number an__law_number cd__law_number ct__law_number), sl__law_number⟩)
    (c__law_number : PySem.W.codeIn K cd__law_number "_law_number" = true) (k__law_number : PySem.W.keepIn K (.ref f__law_number) = true)
    {f__law_rows : Addr} {oc__law_rows : Value} {od__law_rows an__law_rows : Option Addr} {sl__law_rows : Array (Option Value)} {kV__law_rows dc__law_rows pm__law_rows cd__law_rows ct__law_rows : Value}
    (a__law_rows : PySem.W.nsIn K mainGlobals "_law_rows" = some (some (.ref f__law_rows))) (l__law_rows : K.lookup f__law_rows = some ⟨oc__law_rows, od__law_rows, .func (PySem.W.fnOf "_law_rows" "_law_rows" (defArgs (top 24)) (defBody (top 24)) (defScope (top 24)) .none kV__law_rows dc__law_rows pm__law_rows an__law_rows cd__law_rows ct__law_rows), sl__law_rows⟩)
    (c__law_rows : PySem.W.codeIn K cd__law_rows "_law_rows" = true) (k__law_rows : PySem.W.keepIn K (.ref f__law_rows) = true)
    {f__law_whole : Addr} {oc__law_whole : Value} {od__law_whole an__law_whole : Option Addr} {sl__law_whole : Array (Option Value)} {kV__law_whole dc__law_whole pm__law_whole cd__law_whole ct__law_whole : Value}
    (a__law_whole : PySem.W.nsIn K mainGlobals "_law_whole" = some (some (.ref f__law_whole))) (l__law_whole : K.lookup f__law_whole = some ⟨oc__law_whole, od__law_whole, .func (PySem.W.fnOf "_law_whole" "_law_whole" (defArgs (top 25)) (defBody (top 25)) (defScope (top 25)) .none kV__law_whole dc__law_whole pm__law_whole an__law_whole cd__law_whole ct__law_whole), sl__law_whole⟩)
    (c__law_whole : PySem.W.codeIn K cd__law_whole "_law_whole" = true) (k__law_whole : PySem.W.keepIn K (.ref f__law_whole) = true)
    {f__law_worth : Addr} {oc__law_worth : Value} {od__law_worth an__law_worth : Option Addr} {sl__law_worth : Array (Option Value)} {kV__law_worth dc__law_worth pm__law_worth cd__law_worth ct__law_worth : Value}
    (a__law_worth : PySem.W.nsIn K mainGlobals "_law_worth" = some (some (.ref f__law_worth))) (l__law_worth : K.lookup f__law_worth = some ⟨oc__law_worth, od__law_worth, .func (PySem.W.fnOf "_law_worth" "_law_worth" (defArgs (top 26)) (defBody (top 26)) (defScope (top 26)) .none kV__law_worth dc__law_worth pm__law_worth an__law_worth cd__law_worth ct__law_worth), sl__law_worth⟩)
    (c__law_worth : PySem.W.codeIn K cd__law_worth "_law_worth" = true) (k__law_worth : PySem.W.keepIn K (.ref f__law_worth) = true)
    {f__law_choices : Addr} {oc__law_choices : Value} {od__law_choices an__law_choices : Option Addr} {sl__law_choices : Array (Option Value)} {kV__law_choices dc__law_choices pm__law_choices cd__law_choices ct__law_choices : Value}
    (a__law_choices : PySem.W.nsIn K mainGlobals "_law_choices" = some (some (.ref f__law_choices))) (l__law_choices : K.lookup f__law_choices = some ⟨oc__law_choices, od__law_choices, .func (PySem.W.fnOf "_law_choices" "_law_choices" (defArgs (top 27)) (defBody (top 27)) (defScope (top 27)) .none kV__law_choices dc__law_choices pm__law_choices an__law_choices cd__law_choices ct__law_choices), sl__law_choices⟩)
    (c__law_choices : PySem.W.codeIn K cd__law_choices "_law_choices" = true) (k__law_choices : PySem.W.keepIn K (.ref f__law_choices) = true)
    {f__law_parts : Addr} {oc__law_parts : Value} {od__law_parts an__law_parts : Option Addr} {sl__law_parts : Array (Option Value)} {kV__law_parts dc__law_parts pm__law_parts cd__law_parts ct__law_parts : Value}
    (a__law_parts : PySem.W.nsIn K mainGlobals "_law_parts" = some (some (.ref f__law_parts))) (l__law_parts : K.lookup f__law_parts = some ⟨oc__law_parts, od__law_parts, .func (PySem.W.fnOf "_law_parts" "_law_parts" (defArgs (top 28)) (defBody (top 28)) (defScope (top 28)) .none kV__law_parts dc__law_parts pm__law_parts an__law_parts cd__law_parts ct__law_parts), sl__law_parts⟩)
    (c__law_parts : PySem.W.codeIn K cd__law_parts "_law_parts" = true) (k__law_parts : PySem.W.keepIn K (.ref f__law_parts) = true)
    {f__law_common : Addr} {oc__law_common : Value} {od__law_common an__law_common : Option Addr} {sl__law_common : Array (Option Value)} {kV__law_common dc__law_common pm__law_common cd__law_common ct__law_common : Value}
    (a__law_common : PySem.W.nsIn K mainGlobals "_law_common" = some (some (.ref f__law_common))) (l__law_common : K.lookup f__law_common = some ⟨oc__law_common, od__law_common, .func (PySem.W.fnOf "_law_common" "_law_common" (defArgs (top 29)) (defBody (top 29)) (defScope (top 29)) .none kV__law_common dc__law_common pm__law_common an__law_common cd__law_common ct__law_common), sl__law_common⟩)
    (c__law_common : PySem.W.codeIn K cd__law_common "_law_common" = true) (k__law_common : PySem.W.keepIn K (.ref f__law_common) = true)
    {f__law_told : Addr} {oc__law_told : Value} {od__law_told an__law_told : Option Addr} {sl__law_told : Array (Option Value)} {kV__law_told dc__law_told pm__law_told cd__law_told ct__law_told : Value}
    (a__law_told : PySem.W.nsIn K mainGlobals "_law_told" = some (some (.ref f__law_told))) (l__law_told : K.lookup f__law_told = some ⟨oc__law_told, od__law_told, .func (PySem.W.fnOf "_law_told" "_law_told" (defArgs (top 30)) (defBody (top 30)) (defScope (top 30)) .none kV__law_told dc__law_told pm__law_told an__law_told cd__law_told ct__law_told), sl__law_told⟩)
    (c__law_told : PySem.W.codeIn K cd__law_told "_law_told" = true) (k__law_told : PySem.W.keepIn K (.ref f__law_told) = true)
    {f_law : Addr} {oc_law : Value} {od_law an_law : Option Addr} {sl_law : Array (Option Value)} {kV_law dc_law pm_law cd_law ct_law : Value}
    (a_law : PySem.W.nsIn K mainGlobals "law" = some (some (.ref f_law))) (l_law : K.lookup f_law = some ⟨oc_law, od_law, .func (PySem.W.fnOf "law" "law" (defArgs (top 31)) (defBody (top 31)) (defScope (top 31)) .none kV_law dc_law pm_law an_law cd_law ct_law), sl_law⟩)
    (c_law : PySem.W.codeIn K cd_law "law" = true) (k_law : PySem.W.keepIn K (.ref f_law) = true)
    {f__law_name_of : Addr} {oc__law_name_of : Value} {od__law_name_of an__law_name_of : Option Addr} {sl__law_name_of : Array (Option Value)} {kV__law_name_of dc__law_name_of pm__law_name_of cd__law_name_of ct__law_name_of : Value}
    (a__law_name_of : PySem.W.nsIn K mainGlobals "_law_name_of" = some (some (.ref f__law_name_of))) (l__law_name_of : K.lookup f__law_name_of = some ⟨oc__law_name_of, od__law_name_of, .func (PySem.W.fnOf "_law_name_of" "_law_name_of" (defArgs (top 22)) (defBody (top 22)) (defScope (top 22)) .none kV__law_name_of dc__law_name_of pm__law_name_of an__law_name_of cd__law_name_of ct__law_name_of), sl__law_name_of⟩)
    (c__law_name_of : PySem.W.codeIn K cd__law_name_of "_law_name_of" = true) (k__law_name_of : PySem.W.keepIn K (.ref f__law_name_of) = true)
    (z_len : PySem.W.nsIn K mainGlobals "len" = some none)
    (z_int : PySem.W.nsIn K mainGlobals "int" = some none)
    (z_abs : PySem.W.nsIn K mainGlobals "abs" = some none)
    (z_max : PySem.W.nsIn K mainGlobals "max" = some none)
    (z_min : PySem.W.nsIn K mainGlobals "min" = some none)
    (z_list : PySem.W.nsIn K mainGlobals "list" = some none)
    (z_tuple : PySem.W.nsIn K mainGlobals "tuple" = some none)
    (z_all : PySem.W.nsIn K mainGlobals "all" = some none)
    (z_any : PySem.W.nsIn K mainGlobals "any" = some none)
    (z_sum : PySem.W.nsIn K mainGlobals "sum" = some none)
    (z_isinstance : PySem.W.nsIn K mainGlobals "isinstance" = some none)
    (z_sorted : PySem.W.nsIn K mainGlobals "sorted" = some none)
    (z_range : PySem.W.nsIn K mainGlobals "range" = some none)
    (z_zip : PySem.W.nsIn K mainGlobals "zip" = some none)
    (z_enumerate : PySem.W.nsIn K mainGlobals "enumerate" = some none)
    (z_str : PySem.W.nsIn K mainGlobals "str" = some none)
    (z_bool : PySem.W.nsIn K mainGlobals "bool" = some none)
    (z_ValueError : PySem.W.nsIn K mainGlobals "ValueError" = some none)
    {X_NoMatch : Addr} (gx_NoMatch : PySem.W.nsIn K mainGlobals "NoMatch" = some (some (.ref X_NoMatch)))
    {X_NoNumber : Addr} (gx_NoNumber : PySem.W.nsIn K mainGlobals "NoNumber" = some (some (.ref X_NoNumber)))
    {X_NoRow : Addr} (gx_NoRow : PySem.W.nsIn K mainGlobals "NoRow" = some (some (.ref X_NoRow)))
    {X_NoSize : Addr} (gx_NoSize : PySem.W.nsIn K mainGlobals "NoSize" = some (some (.ref X_NoSize)))
    {X_NoStep : Addr} (gx_NoStep : PySem.W.nsIn K mainGlobals "NoStep" = some (some (.ref X_NoStep)))
    {X_NoText : Addr} (gx_NoText : PySem.W.nsIn K mainGlobals "NoText" = some (some (.ref X_NoText)))
    {X_NothingLeft : Addr} (gx_NothingLeft : PySem.W.nsIn K mainGlobals "NothingLeft" = some (some (.ref X_NothingLeft)))
    {X_NoWorth : Addr} (gx_NoWorth : PySem.W.nsIn K mainGlobals "NoWorth" = some (some (.ref X_NoWorth)))
    {X_TooMany : Addr} (gx_TooMany : PySem.W.nsIn K mainGlobals "TooMany" = some (some (.ref X_TooMany)))
    {X_RowError : Addr} (gx_RowError : PySem.W.nsIn K mainGlobals "RowError" = some (some (.ref X_RowError)))
    (w_n : PySem.W.specialIn K (.builtin "object.__class__") "__get__" = some (some (.builtin "getset_descriptor.__get__"))) (w_t : PySem.W.takesIn K (.builtin "object.__class__") = some true)
    (e4_NoNumber : PySem.W.typeIn K (.ref X_NoNumber) = some (.type "type"))
    (h4_NoNumber : PySem.W.hasDictIn K X_NoNumber = true)
    (e4_NoRow : PySem.W.typeIn K (.ref X_NoRow) = some (.type "type"))
    (h4_NoRow : PySem.W.hasDictIn K X_NoRow = true)
    (e4_NoSize : PySem.W.typeIn K (.ref X_NoSize) = some (.type "type"))
    (h4_NoSize : PySem.W.hasDictIn K X_NoSize = true)
    (e4_NoStep : PySem.W.typeIn K (.ref X_NoStep) = some (.type "type"))
    (h4_NoStep : PySem.W.hasDictIn K X_NoStep = true)
    (e4_NoText : PySem.W.typeIn K (.ref X_NoText) = some (.type "type"))
    (h4_NoText : PySem.W.hasDictIn K X_NoText = true)
    (e4_NothingLeft : PySem.W.typeIn K (.ref X_NothingLeft) = some (.type "type"))
    (h4_NothingLeft : PySem.W.hasDictIn K X_NothingLeft = true)
    (e4_NoWorth : PySem.W.typeIn K (.ref X_NoWorth) = some (.type "type"))
    (h4_NoWorth : PySem.W.hasDictIn K X_NoWorth = true)
    (e4_TooMany : PySem.W.typeIn K (.ref X_TooMany) = some (.type "type"))
    (h4_TooMany : PySem.W.hasDictIn K X_TooMany = true)
    (e4_RowError : PySem.W.typeIn K (.ref X_RowError) = some (.type "type"))
    (h4_RowError : PySem.W.hasDictIn K X_RowError = true)
    (e3_RowError : PySem.W.subIn K (.ref X_RowError) (.type "BaseException") = some true)
    (e1_NoMatch : PySem.W.excIn K X_NoMatch [.type "ValueError", .type "Exception", .type "BaseException", .type "object"] "ValueError.__new__" = true)
    (e2_NoMatch : PySem.W.keepIn K (.ref X_NoMatch) = true)
    (e3_NoMatch : PySem.W.subIn K (.ref X_NoMatch) (.type "BaseException") = some true)
    (e4_NoMatch : PySem.W.typeIn K (.ref X_NoMatch) = some (.type "type"))
    (h1_NoMatch : PySem.W.findIn K (.ref X_NoMatch) "__getattribute__" = some (some (.builtin "BaseException.__getattribute__")))
    (h2_NoMatch : PySem.W.findIn K (.ref X_NoMatch) "__getattr__" = some none)
    (h4_NoMatch : PySem.W.hasDictIn K X_NoMatch = true)
    (h5_NoMatch : PySem.W.findIn K (.ref X_NoMatch) "__class__" = some (some (.builtin "object.__class__")))
    (h8_NoMatch : PySem.W.mroIn K X_NoMatch (.type "object") = some true)
    (er_NoMatch : PySem.W.subIn K (.ref X_NoMatch) (.ref X_RowError) = some true)
    (kv_NoMatch : PySem.W.subIn K (.ref X_NoMatch) (.type "ValueError") = some true)
    (kNoNumber_NoMatch : PySem.W.subIn K (.ref X_NoMatch) (.ref X_NoNumber) = some false)
    (nNoNumber_NoMatch : (Value.ref X_NoMatch == Value.ref X_NoNumber) = false)
    (kNoRow_NoMatch : PySem.W.subIn K (.ref X_NoMatch) (.ref X_NoRow) = some false)
    (nNoRow_NoMatch : (Value.ref X_NoMatch == Value.ref X_NoRow) = false)
    (kNoSize_NoMatch : PySem.W.subIn K (.ref X_NoMatch) (.ref X_NoSize) = some false)
    (nNoSize_NoMatch : (Value.ref X_NoMatch == Value.ref X_NoSize) = false)
    (kNoStep_NoMatch : PySem.W.subIn K (.ref X_NoMatch) (.ref X_NoStep) = some false)
    (nNoStep_NoMatch : (Value.ref X_NoMatch == Value.ref X_NoStep) = false)
    (kNoText_NoMatch : PySem.W.subIn K (.ref X_NoMatch) (.ref X_NoText) = some false)
    (nNoText_NoMatch : (Value.ref X_NoMatch == Value.ref X_NoText) = false)
    (kNothingLeft_NoMatch : PySem.W.subIn K (.ref X_NoMatch) (.ref X_NothingLeft) = some false)
    (nNothingLeft_NoMatch : (Value.ref X_NoMatch == Value.ref X_NothingLeft) = false)
    (kNoWorth_NoMatch : PySem.W.subIn K (.ref X_NoMatch) (.ref X_NoWorth) = some false)
    (nNoWorth_NoMatch : (Value.ref X_NoMatch == Value.ref X_NoWorth) = false)
    (kTooMany_NoMatch : PySem.W.subIn K (.ref X_NoMatch) (.ref X_TooMany) = some false)
    (nTooMany_NoMatch : (Value.ref X_NoMatch == Value.ref X_TooMany) = false) :
    ∃ (G : Gb) (L : List DI) (glob : Str → Option D) (i : DI) (fd : FuncData), TxtOk K mg G L glob ∧ (∀ c, i.rz.contains c = true → ∃ C, ExcAt K mg G c C) ∧ (i.tr = true → ∀ prog w' base, TryOk prog w' K mg base G) ∧ Fun K i.x i.x i.st fa fd ∧ FnScope i.N ["script"] (defScope i.st) ∧ (∀ (s : Shared) (u : Value), BindsTo s fd ⟨[u], []⟩ [("script", u)]) ∧
      ∀ ns : List Int, ns.length ≤ 63 → (∀ z ∈ ns, Builtin.Int.intBits z ≤ 1048576) → ∃ f μ, runFn (tb (pgOf L glob) 14) (lawFn (L.map (·.x)) i) 0 [.scr ns] [] = .ok (.bl true, f) μ := by
  have e := hfa.symm.trans (PySem.W.mg_of X Gn a_law)
  cases e
  let G : Gb := ⟨exF [("NoMatch", X_NoMatch), ("parts", f_parts), ("common_part", f_common_part)], K⟩
  have hE : ∀ c, (["NoMatch"] : List Str).contains c = true → ∃ C, ExcAt K mg G c C := by
    intro c hc
    have hc := List.contains_iff_mem.mp hc
    simp only [List.mem_cons, List.not_mem_nil, or_false] at hc
    rcases hc with rfl
    · exact ⟨X_NoMatch, PySem.W.mg_of X Gn gx_NoMatch, (show exF [("NoMatch", X_NoMatch), ("parts", f_parts), ("common_part", f_common_part)] "NoMatch" = some (V.ref X_NoMatch) from exF_hit (n := "NoMatch")), e1_NoMatch, e2_NoMatch, e3_NoMatch, e4_NoMatch⟩
  have hN : ∀ (prog : Program) (w' : World) (base : Heap), TryOk prog w' K mg base G := by
    intro prog w' base
    refine ⟨⟨X_RowError, PySem.W.mg_of X Gn gx_RowError, fun c C hcm hC => ?_⟩, nm_run (PySem.W.mg_of X Gn a__law_name_of) k__law_name_of (fun_mk l__law_name_of c__law_name_of k__law_name_of) ((fun_mk l__law_name_of c__law_name_of k__law_name_of).binds (fun _ _ _ _ _ _ us hl => match us, hl with | [_], _ => rfl)) (PySem.W.mg_none_of X Gn z_isinstance) (PySem.W.mg_none_of X Gn z_zip) (PySem.W.mg_none_of X Gn z_ValueError) fun c C hcm hC => ?_⟩
    · have hC := exF_inv hC
      simp only [List.mem_cons, List.not_mem_nil, or_false, Prod.mk.injEq] at hC
      rcases hC with ⟨rfl, rfl⟩ | ⟨rfl, rfl⟩ | ⟨rfl, rfl⟩
      · exact PySem.W.exm_ref e3_RowError h4_RowError e4_RowError er_NoMatch
      · exact absurd hcm (by decide +kernel)
      · exact absurd hcm (by decide +kernel)
    · have hC := exF_inv hC
      simp only [List.mem_cons, List.not_mem_nil, or_false, Prod.mk.injEq] at hC
      rcases hC with ⟨rfl, rfl⟩ | ⟨rfl, rfl⟩ | ⟨rfl, rfl⟩
      · exact ⟨true, false, false, false, false, false, false, false, false, true, ⟨⟨h1_NoMatch, h2_NoMatch, e3_NoMatch, h4_NoMatch, h5_NoMatch, w_n, w_t, h8_NoMatch⟩, rfl, nm_cls (PySem.W.mg_of X Gn gx_NoMatch) kit_self (PySem.W.mg_of X Gn gx_NoNumber) (kit_ref nNoNumber_NoMatch h4_NoNumber e4_NoNumber kNoNumber_NoMatch) (PySem.W.mg_of X Gn gx_NoRow) (kit_ref nNoRow_NoMatch h4_NoRow e4_NoRow kNoRow_NoMatch) (PySem.W.mg_of X Gn gx_NoSize) (kit_ref nNoSize_NoMatch h4_NoSize e4_NoSize kNoSize_NoMatch) (PySem.W.mg_of X Gn gx_NoStep) (kit_ref nNoStep_NoMatch h4_NoStep e4_NoStep kNoStep_NoMatch) (PySem.W.mg_of X Gn gx_NoText) (kit_ref nNoText_NoMatch h4_NoText e4_NoText kNoText_NoMatch) (PySem.W.mg_of X Gn gx_NothingLeft) (kit_ref nNothingLeft_NoMatch h4_NothingLeft e4_NothingLeft kNothingLeft_NoMatch) (PySem.W.mg_of X Gn gx_NoWorth) (kit_ref nNoWorth_NoMatch h4_NoWorth e4_NoWorth kNoWorth_NoMatch) (PySem.W.mg_of X Gn gx_TooMany) (kit_ref nTooMany_NoMatch h4_TooMany e4_TooMany kTooMany_NoMatch), kit_ve kv_NoMatch⟩, by decide +kernel⟩
      · exact absurd hcm (by decide +kernel)
      · exact absurd hcm (by decide +kernel)
  refine ⟨G, tab, glob, d_law, _, ⟨rfl, ?_, ?_, ?_, ?_, ?_, ?_⟩, fun c hc => hE c (sub_of (by decide) c hc), fun _ => hN, fun_mk l_law c_law k_law, sc_law, fun s u => .of_eq rfl, run_law⟩
  · intro x hx
    have hx : x ∈ (["len", "int", "abs", "max", "min", "list", "tuple", "all", "any", "sum", "isinstance", "sorted", "range", "zip", "enumerate", "str"] : List Str) := hx
    simp only [List.mem_cons, List.not_mem_nil, or_false] at hx
    rcases hx with rfl | rfl | rfl | rfl | rfl | rfl | rfl | rfl | rfl | rfl | rfl | rfl | rfl | rfl | rfl | rfl
    · exact PySem.W.mg_none_of X Gn z_len
    · exact PySem.W.mg_none_of X Gn z_int
    · exact PySem.W.mg_none_of X Gn z_abs
    · exact PySem.W.mg_none_of X Gn z_max
    · exact PySem.W.mg_none_of X Gn z_min
    · exact PySem.W.mg_none_of X Gn z_list
    · exact PySem.W.mg_none_of X Gn z_tuple
    · exact PySem.W.mg_none_of X Gn z_all
    · exact PySem.W.mg_none_of X Gn z_any
    · exact PySem.W.mg_none_of X Gn z_sum
    · exact PySem.W.mg_none_of X Gn z_isinstance
    · exact PySem.W.mg_none_of X Gn z_sorted
    · exact PySem.W.mg_none_of X Gn z_range
    · exact PySem.W.mg_none_of X Gn z_zip
    · exact PySem.W.mg_none_of X Gn z_enumerate
    · exact PySem.W.mg_none_of X Gn z_str
  · intro x d hd
    have hd := mem_of_lookup hd
    simp only [glb, List.mem_cons, List.not_mem_nil, or_false, Prod.mk.injEq] at hd
    rcases hd with ⟨rfl, rfl⟩ | ⟨rfl, rfl⟩ | ⟨rfl, rfl⟩ | ⟨rfl, rfl⟩ | ⟨rfl, rfl⟩ | ⟨rfl, rfl⟩ | ⟨rfl, rfl⟩
    · exact ⟨.ref f_parts, _, .inl (PySem.W.mg_of X Gn a_parts), rfl, fun _ _ _ => .fn (show exF [("NoMatch", X_NoMatch), ("parts", f_parts), ("common_part", f_common_part)] "parts" = some (V.ref f_parts) from exF_miss (c := "parts") (n := "NoMatch") (by decide) <| exF_hit (n := "parts"))⟩
    · exact ⟨.ref f_common_part, _, .inl (PySem.W.mg_of X Gn a_common_part), rfl, fun _ _ _ => .fn (show exF [("NoMatch", X_NoMatch), ("parts", f_parts), ("common_part", f_common_part)] "common_part" = some (V.ref f_common_part) from exF_miss (c := "common_part") (n := "NoMatch") (by decide) <| exF_miss (c := "common_part") (n := "parts") (by decide) <| exF_hit (n := "common_part"))⟩
    · exact ⟨.ty "int", .type "int", .inr ⟨PySem.W.mg_none_of X Gn z_int, by decide +kernel, by decide⟩, rfl, fun _ _ _ => .ty _⟩
    · exact ⟨.ty "bool", .type "bool", .inr ⟨PySem.W.mg_none_of X Gn z_bool, by decide +kernel, by decide⟩, rfl, fun _ _ _ => .ty _⟩
    · exact ⟨.ty "list", .type "list", .inr ⟨PySem.W.mg_none_of X Gn z_list, by decide +kernel, by decide⟩, rfl, fun _ _ _ => .ty _⟩
    · exact ⟨.ty "str", .type "str", .inr ⟨PySem.W.mg_none_of X Gn z_str, by decide +kernel, by decide⟩, rfl, fun _ _ _ => .ty _⟩
    · exact ⟨.ty "tuple", .type "tuple", .inr ⟨PySem.W.mg_none_of X Gn z_tuple, by decide +kernel, by decide⟩, rfl, fun _ _ _ => .ty _⟩
  · exact all_cons (def_mk X Gn a_need_few l_need_few c_need_few k_need_few (fun _ _ _ _ _ _ us hl => match us, hl with | [_], _ => rfl) sc_need_few) <| all_cons (def_mk X Gn a_worth_in l_worth_in c_worth_in k_worth_in (fun _ _ _ _ _ _ us hl => match us, hl with | [_], _ => rfl) sc_worth_in) <| all_cons (def_mk X Gn a_choices l_choices c_choices k_choices (fun _ _ _ _ _ _ us hl => match us, hl with | [_, _], _ => rfl) sc_choices) <| all_cons (def_mk X Gn a_parts l_parts c_parts k_parts (fun _ _ _ _ _ _ us hl => match us, hl with | [_], _ => rfl) sc_parts) <| all_cons (def_mk X Gn a_divisor l_divisor c_divisor k_divisor (fun _ _ _ _ _ _ us hl => match us, hl with | [_, _], _ => rfl) sc_divisor) <| all_cons (def_mk X Gn a_common_of l_common_of c_common_of k_common_of (fun _ _ _ _ _ _ us hl => match us, hl with | [_], _ => rfl) sc_common_of) <| all_cons (def_mk X Gn a_common_part l_common_part c_common_part k_common_part (fun _ _ _ _ _ _ us hl => match us, hl with | [_], _ => rfl) sc_common_part) <| all_cons (def_mk X Gn a__law_deck l__law_deck c__law_deck k__law_deck (fun _ _ _ _ _ _ us hl => match us, hl with | [_, _], _ => rfl) sc__law_deck) <| all_cons (def_mk X Gn a__law_pick l__law_pick c__law_pick k__law_pick (fun _ _ _ _ _ _ us hl => match us, hl with | [_, _], _ => rfl) sc__law_pick) <| all_cons (def_mk X Gn a__law_number l__law_number c__law_number k__law_number (fun _ _ _ _ _ _ us hl => match us, hl with | [_, _], _ => rfl) sc__law_number) <| all_cons (def_mk X Gn a__law_rows l__law_rows c__law_rows k__law_rows (fun _ _ _ _ _ _ us hl => match us, hl with | [_, _, _], _ => rfl) sc__law_rows) <| all_cons (def_mk X Gn a__law_whole l__law_whole c__law_whole k__law_whole (fun _ _ _ _ _ _ us hl => match us, hl with | [_], _ => rfl) sc__law_whole) <| all_cons (def_mk X Gn a__law_worth l__law_worth c__law_worth k__law_worth (fun _ _ _ _ _ _ us hl => match us, hl with | [_], _ => rfl) sc__law_worth) <| all_cons (def_mk X Gn a__law_choices l__law_choices c__law_choices k__law_choices (fun _ _ _ _ _ _ us hl => match us, hl with | [_, _, _], _ => rfl) sc__law_choices) <| all_cons (def_mk X Gn a__law_parts l__law_parts c__law_parts k__law_parts (fun _ _ _ _ _ _ us hl => match us, hl with | [_], _ => rfl) sc__law_parts) <| all_cons (def_mk X Gn a__law_common l__law_common c__law_common k__law_common (fun _ _ _ _ _ _ us hl => match us, hl with | [_], _ => rfl) sc__law_common) <| all_cons (def_mk X Gn a__law_told l__law_told c__law_told k__law_told (fun _ _ _ _ _ _ us hl => match us, hl with | [_, _], _ => rfl) sc__law_told) <| all_nil
  · intro x v fa hx hm
    have hx : exF [("NoMatch", X_NoMatch), ("parts", f_parts), ("common_part", f_common_part)] x = some v := hx
    obtain ⟨A, rfl, hA⟩ := exF_in hx
    simp only [List.mem_cons, List.not_mem_nil, or_false, Prod.mk.injEq] at hA
    rcases hA with ⟨rfl, rfl⟩ | ⟨rfl, rfl⟩ | ⟨rfl, rfl⟩
    · rw [PySem.W.mg_of X Gn gx_NoMatch] at hm; cases hm; rfl
    · rw [PySem.W.mg_of X Gn a_parts] at hm; cases hm; rfl
    · rw [PySem.W.mg_of X Gn a_common_part] at hm; cases hm; rfl
  · exact all_cons (fun c hc => hE c (sub_of (by decide) c hc)) <| all_cons (fun c hc => hE c (sub_of (by decide) c hc)) <| all_cons (fun c hc => hE c (sub_of (by decide) c hc)) <| all_cons (fun c hc => hE c (sub_of (by decide) c hc)) <| all_cons (fun c hc => hE c (sub_of (by decide) c hc)) <| all_cons (fun c hc => hE c (sub_of (by decide) c hc)) <| all_cons (fun c hc => hE c (sub_of (by decide) c hc)) <| all_cons (fun c hc => hE c (sub_of (by decide) c hc)) <| all_cons (fun c hc => hE c (sub_of (by decide) c hc)) <| all_cons (fun c hc => hE c (sub_of (by decide) c hc)) <| all_cons (fun c hc => hE c (sub_of (by decide) c hc)) <| all_cons (fun c hc => hE c (sub_of (by decide) c hc)) <| all_cons (fun c hc => hE c (sub_of (by decide) c hc)) <| all_cons (fun c hc => hE c (sub_of (by decide) c hc)) <| all_cons (fun c hc => hE c (sub_of (by decide) c hc)) <| all_cons (fun c hc => hE c (sub_of (by decide) c hc)) <| all_cons (fun c hc => hE c (sub_of (by decide) c hc)) <| all_nil
  · exact all_cons (fun _ => hN) <| all_cons (fun _ => hN) <| all_cons (fun _ => hN) <| all_cons (fun _ => hN) <| all_cons (fun _ => hN) <| all_cons (fun _ => hN) <| all_cons (fun _ => hN) <| all_cons (fun _ => hN) <| all_cons (fun _ => hN) <| all_cons (fun _ => hN) <| all_cons (fun _ => hN) <| all_cons (fun _ => hN) <| all_cons (fun _ => hN) <| all_cons (fun _ => hN) <| all_cons (fun _ => hN) <| all_cons (fun _ => hN) <| all_cons (fun _ => hN) <| all_nil
end Law
open PySem PySem.W PyProof.Rows in
set_option maxRecDepth 100000 in
set_option maxHeartbeats 0 in
theorem PySem.Challenge.cw_oneworth_k04_parts_holds : PySem.Challenge.rw_oneworth_k04_parts.Holds := by
  w_on; o_law; k_head; (case hw => w_witness2)
  k_fill
  refine VM.walk_vm (l := PySem.Challenge.rw_oneworth_k04_parts) (n := 63) (k := 14) (x := "script") rfl (by decide) rfl ⟨rfl, by decide, by decide⟩ (by rfl) (fun w => rfl) (fun w h Y => PySem.W.kIn_of Y) ?F
  case F =>
    intro w mg fa h KX G hmg
    refine' Law.all_mk KX G hmg ?a_need_few ?l_need_few ?c_need_few ?k_need_few ?a_worth_in ?l_worth_in ?c_worth_in ?k_worth_in ?a_choices ?l_choices ?c_choices ?k_choices ?a_parts ?l_parts ?c_parts ?k_parts ?a_divisor ?l_divisor ?c_divisor ?k_divisor ?a_common_of ?l_common_of ?c_common_of ?k_common_of ?a_common_part ?l_common_part ?c_common_part ?k_common_part ?a__law_deck ?l__law_deck ?c__law_deck ?k__law_deck ?a__law_pick ?l__law_pick ?c__law_pick ?k__law_pick ?a__law_number ?l__law_number ?c__law_number ?k__law_number ?a__law_rows ?l__law_rows ?c__law_rows ?k__law_rows ?a__law_whole ?l__law_whole ?c__law_whole ?k__law_whole ?a__law_worth ?l__law_worth ?c__law_worth ?k__law_worth ?a__law_choices ?l__law_choices ?c__law_choices ?k__law_choices ?a__law_parts ?l__law_parts ?c__law_parts ?k__law_parts ?a__law_common ?l__law_common ?c__law_common ?k__law_common ?a__law_told ?l__law_told ?c__law_told ?k__law_told ?a_law ?l_law ?c_law ?k_law ?a__law_name_of ?l__law_name_of ?c__law_name_of ?k__law_name_of ?z_len ?z_int ?z_abs ?z_max ?z_min ?z_list ?z_tuple ?z_all ?z_any ?z_sum ?z_isinstance ?z_sorted ?z_range ?z_zip ?z_enumerate ?z_str ?z_bool ?z_ValueError ?gx_NoMatch ?gx_NoNumber ?gx_NoRow ?gx_NoSize ?gx_NoStep ?gx_NoText ?gx_NothingLeft ?gx_NoWorth ?gx_TooMany ?gx_RowError ?w_n ?w_t ?e4_NoNumber ?h4_NoNumber ?e4_NoRow ?h4_NoRow ?e4_NoSize ?h4_NoSize ?e4_NoStep ?h4_NoStep ?e4_NoText ?h4_NoText ?e4_NothingLeft ?h4_NothingLeft ?e4_NoWorth ?h4_NoWorth ?e4_TooMany ?h4_TooMany ?e4_RowError ?h4_RowError ?e3_RowError ?e1_NoMatch ?e2_NoMatch ?e3_NoMatch ?e4_NoMatch ?h1_NoMatch ?h2_NoMatch ?h4_NoMatch ?h5_NoMatch ?h8_NoMatch ?er_NoMatch ?kv_NoMatch ?kNoNumber_NoMatch ?nNoNumber_NoMatch ?kNoRow_NoMatch ?nNoRow_NoMatch ?kNoSize_NoMatch ?nNoSize_NoMatch ?kNoStep_NoMatch ?nNoStep_NoMatch ?kNoText_NoMatch ?nNoText_NoMatch ?kNothingLeft_NoMatch ?nNothingLeft_NoMatch ?kNoWorth_NoMatch ?nNoWorth_NoMatch ?kTooMany_NoMatch ?nTooMany_NoMatch
    (case a_need_few => k_is)
    (case l_need_few => k_is)
    (case c_need_few => k_is)
    (case k_need_few => k_is)
    (case a_worth_in => k_is)
    (case l_worth_in => k_is)
    (case c_worth_in => k_is)
    (case k_worth_in => k_is)
    (case a_choices => k_is)
    (case l_choices => k_is)
    (case c_choices => k_is)
    (case k_choices => k_is)
    (case a_parts => k_is)
    (case l_parts => k_is)
    (case c_parts => k_is)
    (case k_parts => k_is)
    (case a_divisor => k_is)
    (case l_divisor => k_is)
    (case c_divisor => k_is)
    (case k_divisor => k_is)
    (case a_common_of => k_is)
    (case l_common_of => k_is)
    (case c_common_of => k_is)
    (case k_common_of => k_is)
    (case a_common_part => k_is)
    (case l_common_part => k_is)
    (case c_common_part => k_is)
    (case k_common_part => k_is)
    (case a__law_deck => k_is)
    (case l__law_deck => k_is)
    (case c__law_deck => k_is)
    (case k__law_deck => k_is)
    (case a__law_pick => k_is)
    (case l__law_pick => k_is)
    (case c__law_pick => k_is)
    (case k__law_pick => k_is)
    (case a__law_number => k_is)
    (case l__law_number => k_is)
    (case c__law_number => k_is)
    (case k__law_number => k_is)
    (case a__law_rows => k_is)
    (case l__law_rows => k_is)
    (case c__law_rows => k_is)
    (case k__law_rows => k_is)
    (case a__law_whole => k_is)
    (case l__law_whole => k_is)
    (case c__law_whole => k_is)
    (case k__law_whole => k_is)
    (case a__law_worth => k_is)
    (case l__law_worth => k_is)
    (case c__law_worth => k_is)
    (case k__law_worth => k_is)
    (case a__law_choices => k_is)
    (case l__law_choices => k_is)
    (case c__law_choices => k_is)
    (case k__law_choices => k_is)
    (case a__law_parts => k_is)
    (case l__law_parts => k_is)
    (case c__law_parts => k_is)
    (case k__law_parts => k_is)
    (case a__law_common => k_is)
    (case l__law_common => k_is)
    (case c__law_common => k_is)
    (case k__law_common => k_is)
    (case a__law_told => k_is)
    (case l__law_told => k_is)
    (case c__law_told => k_is)
    (case k__law_told => k_is)
    (case a_law => k_is)
    (case l_law => k_is)
    (case c_law => k_is)
    (case k_law => k_is)
    (case a__law_name_of => k_is)
    (case l__law_name_of => k_is)
    (case c__law_name_of => k_is)
    (case k__law_name_of => k_is)
    (case z_len => k_is)
    (case z_int => k_is)
    (case z_abs => k_is)
    (case z_max => k_is)
    (case z_min => k_is)
    (case z_list => k_is)
    (case z_tuple => k_is)
    (case z_all => k_is)
    (case z_any => k_is)
    (case z_sum => k_is)
    (case z_isinstance => k_is)
    (case z_sorted => k_is)
    (case z_range => k_is)
    (case z_zip => k_is)
    (case z_enumerate => k_is)
    (case z_str => k_is)
    (case z_bool => k_is)
    (case z_ValueError => k_is)
    (case gx_NoMatch => k_is)
    (case gx_NoNumber => k_is)
    (case gx_NoRow => k_is)
    (case gx_NoSize => k_is)
    (case gx_NoStep => k_is)
    (case gx_NoText => k_is)
    (case gx_NothingLeft => k_is)
    (case gx_NoWorth => k_is)
    (case gx_TooMany => k_is)
    (case gx_RowError => k_is)
    (case w_n => k_is)
    (case w_t => k_is)
    (case e4_NoNumber => k_is)
    (case h4_NoNumber => k_is)
    (case e4_NoRow => k_is)
    (case h4_NoRow => k_is)
    (case e4_NoSize => k_is)
    (case h4_NoSize => k_is)
    (case e4_NoStep => k_is)
    (case h4_NoStep => k_is)
    (case e4_NoText => k_is)
    (case h4_NoText => k_is)
    (case e4_NothingLeft => k_is)
    (case h4_NothingLeft => k_is)
    (case e4_NoWorth => k_is)
    (case h4_NoWorth => k_is)
    (case e4_TooMany => k_is)
    (case h4_TooMany => k_is)
    (case e4_RowError => k_is)
    (case h4_RowError => k_is)
    (case e3_RowError => k_is)
    (case e1_NoMatch => k_exc)
    (case e2_NoMatch => k_is)
    (case e3_NoMatch => k_is)
    (case e4_NoMatch => k_is)
    (case h1_NoMatch => k_is)
    (case h2_NoMatch => k_is)
    (case h4_NoMatch => k_is)
    (case h5_NoMatch => k_is)
    (case h8_NoMatch => k_is)
    (case er_NoMatch => k_is)
    (case kv_NoMatch => k_is)
    (case kNoNumber_NoMatch => k_is)
    (case nNoNumber_NoMatch => decide)
    (case kNoRow_NoMatch => k_is)
    (case nNoRow_NoMatch => decide)
    (case kNoSize_NoMatch => k_is)
    (case nNoSize_NoMatch => decide)
    (case kNoStep_NoMatch => k_is)
    (case nNoStep_NoMatch => decide)
    (case kNoText_NoMatch => k_is)
    (case nNoText_NoMatch => decide)
    (case kNothingLeft_NoMatch => k_is)
    (case nNothingLeft_NoMatch => decide)
    (case kNoWorth_NoMatch => k_is)
    (case nNoWorth_NoMatch => decide)
    (case kTooMany_NoMatch => k_is)
    (case nTooMany_NoMatch => decide)
#print axioms PySem.Challenge.cw_oneworth_k04_parts_holds
