import PyProof.Rows.All
import Wide.All
import OpenK.AllK
import Wide.FinOn
import HandS.ForMost
import HandS.ForExc
import HandS.ExcInit
import HandS.CallSlots
import HandS.ExcField
import HandS.ExcIs
import HandS.Wide
import HandS.IsInst
import HandS.Flow
import HandS.Zip
import HandS.Codes
import PyProof.ReprRoads
import HandS.EndBits
import HandS.WordsExc
import PySem.Challenge.RW_oneworth_k01_rows
set_option Elab.async false
set_option maxRecDepth 100000
/-! the machine: values, store, the IR, its run -/
namespace VM
open PySem L2

inductive D where
  | non | bl (b : Bool) | int (i : Int) | str (s : Str) | ty (n : String) | fn (x : Str)
  | lst (xs : List D) | tup (xs : List D) | cell (n : Nat) | scr (ns : List Int)
  deriving Inhabited
inductive C where
  | lst (xs : List D) | dct (kvs : List (Key × D)) | ins (c : Str) (fs : List (Str × D))
abbrev Sto := List C
abbrev Ev := List (Option D)
structure Exc where
  cls : Str
  val : Option D
inductive R (α : Type) where
  | ok (a : α) (μ : Sto) | err (x : Exc) (μ : Sto) | bad
def R.bind {α β : Type} (r : R α) (f : α → Sto → R β) : R β := match r with
  | .ok a μ => f a μ
  | .err x μ => .err x μ
  | .bad => .bad
inductive RS where
  | nx (ρ : Ev) (μ : Sto) | ret (d : D) (f : Nat) (μ : Sto) | brk (ρ : Ev) (μ : Sto) | ct (ρ : Ev) (μ : Sto) | err (x : Exc) (ρ : Ev) (μ : Sto) | bad

mutual
inductive E where
  | bad | var (i : Nat) | non | bl (b : Bool) | int (i : Int) | str (s : Str) | glob (x : Str)
  | bin (op : Operator) (a b : E) | neg (a : E) | not (a : E) | and (a b : E) | or (a b : E)
  | cmp (op : CmpOp) (a b : E) | cmp2 (op op2 : CmpOp) (a b c : E) | ife (t a b : E)
  | lst (es : Es) | tup (es : Es) | ix (a i : E) | slc (a lo hi : E) | npart
  | call (f : Str) (es : Es) | bi (f : Str) (es : Es) | bm (o : E) (m : Str) (es : Es) | fld (o : E) (f : Str)
  | lc (elt : E) (tg : Tg) (it : It) (c : E) (own : List Nat) | thaw (e : E)
inductive Es where
  | nil | cons (e : E) (es : Es)
inductive Tg where
  | bad | name (i : Nat) | tup (ts : Tgs) | sub (o i : E) | fld (o : E) (f : Str)
inductive Tgs where
  | nil | cons (t : Tg) (ts : Tgs)
inductive It where
  | ex (e : E) | rng1 (a : E) | rng2 (a b : E) | zip (a b : E) | enum (a : E)
end
mutual
inductive S where
  | bad | set (t : Tg) (e : E) | par (i j : Nat) (a b : E) | expr (e : E) | ret (e : E) | retn
  | ife (t : E) (a b : Ss) | for_ (t : Tg) (it : It) (b : Ss) | while_ (t : E) (b : Ss) | brk | cnt | pass
inductive Ss where
  | nil | cons (s : S) (ss : Ss)
end

/-! ### values -/
def itemsL (μ : Sto) : D → Option (List D)
  | .lst xs => some xs
  | .cell n => match μ[n]? with | some (.lst xs) => some xs | _ => none
  | _ => none
def itemsR (μ : Sto) : D → Option (List D)
  | .scr ns => some (ns.map .int)
  | d => itemsL μ d
def itemsS (μ : Sto) : D → Option (List D)
  | .tup xs => some xs
  | d => itemsR μ d
def toPy (μ : Sto) : Nat → D → Option PyData
  | 0, _ => none
  | _ + 1, .non => some .none
  | _ + 1, .bl b => some (.bool b)
  | _ + 1, .int i => some (.int i)
  | _ + 1, .str s => some (.str s)
  | n + 1, .lst xs => (xs.mapM (toPy μ n)).map PyData.list
  | n + 1, .tup xs => (xs.mapM (toPy μ n)).map PyData.tuple
  | n + 1, .cell l => match μ[l]? with | some (.lst xs) => (xs.mapM (toPy μ n)).map PyData.list | _ => none
  | _ + 1, .scr ns => some (.list (ns.map PyData.int))
  | _ + 1, _ => none
def eqS (μ : Sto) (a b : D) : Option Bool :=
  match toPy μ 9 a, toPy μ 9 b with
  | some x, some y => if SeqAt.shaped x && SeqAt.shaped y then some (PyData.eqv x y) else none
  | _, _ => none
def eqD (μ : Sto) (a b : D) : Option Bool :=
  match a, b with
  | .str x, .str y => some (decide (x = y))
  | a, b => eqS μ a b
def truD (μ : Sto) : D → Option Bool
  | .non => some false
  | .bl b => some b
  | .int i => some (i != 0)
  | .str s => if s.length ≤ sizeLine then some ((s.length : Int) != 0) else none
  | d => (itemsS μ d).map fun xs => !xs.isEmpty
def okR {α : Type} (o : Option α) (μ : Sto) : R α := match o with | some a => .ok a μ | none => .bad
def sh (o : Option D) (μ : Sto) : R (D × Nat) := okR (o.map fun d => (d, 0)) μ

def intOp (f : Int → Int → Option Int) (a b : D) (μ : Sto) : R (D × Nat) := match a with
  | .int i => (match b with | .int j => sh ((f i j).map .int) μ | _ => .bad)
  | _ => .bad
def addD (a b : D) (μ : Sto) : R (D × Nat) := match a with
  | .int i => (match b with | .int j => .ok (.int (i + j), 0) μ | _ => .bad)
  | .str x => (match b with | .str y => if x.length + y.length ≤ sizeLine then .ok (.str (x ++ y), 0) μ else .bad | _ => .bad)
  | .tup xs => (match b with | .tup ys => if xs ≠ [] ∧ ys ≠ [] ∧ xs.length + ys.length ≤ sizeLine then .ok (.tup (xs ++ ys), 0) μ else .bad | _ => .bad)
  | a => match itemsR μ a with
    | none => .bad
    | some xs => match itemsR μ b with
      | none => .bad
      | some ys => if xs.length + ys.length ≤ sizeLine then .ok (.lst (xs ++ ys), 1) μ else .bad
def mulD (a b : D) (μ : Sto) : R (D × Nat) := match b with
  | .int k => (match a with
    | .int i => if i.natAbs.log2 + k.natAbs.log2 < 130000000 then .ok (.int (i * k), 0) μ else .bad
    | a => match itemsL μ a with
      | none => .bad
      | some xs => if -(2 ^ 63) ≤ k ∧ k < 2 ^ 63 ∧ xs.length * k.toNat ≤ sizeLine then .ok (.lst (List.replicate k.toNat xs).flatten, 1) μ else .bad)
  | _ => .bad
def binD (op : Operator) (a b : D) (μ : Sto) : R (D × Nat) :=
  match op with
  | .Add => addD a b μ
  | .Mult => mulD a b μ
  | .Sub => intOp (fun i j => some (i - j)) a b μ
  | .Mod => intOp (fun i j => if j ≠ 0 then some (i.fmod j) else none) a b μ
  | .FloorDiv => intOp (fun i j => if j ≠ 0 ∧ j.natAbs.log2 < 9000 then some (i.fdiv j) else none) a b μ
  | .Pow => intOp (fun i j => if 0 ≤ j ∧ j ≤ 1000000 ∧ i.natAbs < 2 ^ 64 then some (i ^ j.toNat) else none) a b μ
  | _ => .bad
def negD (d : D) (μ : Sto) : R (D × Nat) := match d with
  | .int i => .ok (.int (-i), 0) μ
  | _ => .bad
def strIn (x y : Str) : Bool := !(Builtin.Str.occurrences y x 0 y.length 1).isEmpty
def flatD : D → Bool
  | .non | .bl _ | .int _ | .str _ => true
  | _ => false
def cmpD (op : CmpOp) (a b : D) (μ : Sto) : Option Bool :=
  match op with
  | .Eq => eqD μ a b
  | .NotEq => (eqD μ a b).map fun k => !k
  | .Lt => match a, b with | .int i, .int j => some (decide (i < j)) | _, _ => none
  | .LtE => match a, b with | .int i, .int j => some (decide (i ≤ j)) | _, _ => none
  | .Gt => match a, b with | .int i, .int j => some (decide (i > j)) | _, _ => none
  | .GtE => match a, b with | .int i, .int j => some (decide (i ≥ j)) | _, _ => none
  | _ => none
def cutD (xs : List D) (lo hi : Option Int) : List D := (xs.drop (HT.sIx xs.length 0 lo)).take (HT.sIx xs.length xs.length hi - HT.sIx xs.length 0 lo)
def slD (a : D) (lo hi : Option Int) (μ : Sto) : R (D × Nat) :=
  match itemsR μ a with
  | some xs => .ok (.lst (cutD xs lo hi), 1) μ
  | none => .bad
def partD : D → Option (Option Int)
  | .int i => some (some i)
  | .non => some none
  | _ => none
def ixD (a i : D) (μ : Sto) : Option D :=
  match i with
  | .int k => match itemsS μ a with
    | some xs => atI xs k
    | none => none
  | _ => none
/-- the type's name of a value -/
def tyD (μ : Sto) : D → Option String
  | .non => some "NoneType"
  | .bl _ => some "bool"
  | .int _ => some "int"
  | .str _ => some "str"
  | .lst _ => some "list"
  | .tup _ => some "tuple"
  | .scr _ => some "list"
  | .cell n => match μ[n]? with | some (.lst _) => some "list" | some (.dct _) => some "dict" | _ => none
  | _ => none
def isaT (t n : String) : Option Bool :=
  if ["int", "bool", "list", "str", "tuple"].contains n then some (t == n || (t == "bool" && n == "int")) else none
def lenD (ds : List D) (μ : Sto) : R (D × Nat) := match ds with
  | [d] => (match d with
    | .str s => if s.length ≤ sizeLine then .ok (.int s.length, 0) μ else .bad
    | d => sh ((itemsS μ d).map fun xs => .int xs.length) μ)
  | _ => .bad
def intD (ds : List D) (μ : Sto) : R (D × Nat) := match ds with
  | [d] => (match d with
    | .int i => .ok (.int i, 0) μ
    | .bl k => .ok (.int (if k then 1 else 0), 0) μ
    | _ => .bad)
  | _ => .bad
def absD (ds : List D) (μ : Sto) : R (D × Nat) := match ds with
  | [d] => (match d with
    | .int i => .ok (.int (if i < 0 then -i else i), 0) μ
    | _ => .bad)
  | _ => .bad
def ofI : D → Option Int
  | .int i => some i
  | _ => none
def ofB : D → Option Bool
  | .bl i => some i
  | _ => none
def maxD (ds : List D) (μ : Sto) : R (D × Nat) := match ds with
  | [d, e] => (match ofI d, ofI e with
    | some i, some j => .ok (.int (if j > i then j else i), 0) μ
    | _, _ => .bad)
  | _ => .bad
def minD (ds : List D) (μ : Sto) : R (D × Nat) := match ds with
  | [d, e] => (match ofI d, ofI e with
    | some i, some j => .ok (.int (if j < i then j else i), 0) μ
    | _, _ => .bad)
  | _ => .bad
def listD (ds : List D) (μ : Sto) : R (D × Nat) := match ds with
  | [d] => (match itemsS μ d with | some xs => .ok (.lst xs, 1) μ | none => .bad)
  | _ => .bad
def tupleD (ds : List D) (μ : Sto) : R (D × Nat) := match ds with
  | [d] => (match itemsS μ d with | some xs => .ok (.tup xs, 0) μ | none => .bad)
  | _ => .bad
def allD (ds : List D) (μ : Sto) : R (D × Nat) := match ds with
  | [d] => sh ((itemsL μ d).bind fun xs => (xs.mapM ofB).map fun ks => .bl (ks.all id)) μ
  | _ => .bad
def anyD (ds : List D) (μ : Sto) : R (D × Nat) := match ds with
  | [d] => sh ((itemsL μ d).bind fun xs => (xs.mapM ofB).map fun ks => .bl (ks.any id)) μ
  | _ => .bad
def sumD (ds : List D) (μ : Sto) : R (D × Nat) := match ds with
  | [d] => sh ((itemsL μ d).bind fun xs => (xs.mapM ofI).map fun ks => .int ks.sum) μ
  | _ => .bad
def isinD (ds : List D) (μ : Sto) : R (D × Nat) := match ds with
  | [d, e] => (match e with
    | .ty n => sh ((tyD μ d).bind fun t => (isaT t n).map .bl) μ
    | _ => .bad)
  | _ => .bad
def strD (ds : List D) (μ : Sto) : R (D × Nat) := match ds with
  | [d] => (match d with
    | .int i => if i.natAbs.log2 < 1920 then .ok (.str (toString i), 0) μ else .bad
    | .str x => .ok (.str x, 0) μ
    | .bl k => .ok (.str (if k then "True" else "False"), 0) μ
    | .non => .ok (.str "None", 0) μ
    | _ => .bad)
  | _ => .bad
/-- of a list, a tuple too -/
def strA (ds : List D) (μ : Sto) : R (D × Nat) := match ds with
  | [d] => (match toPy μ 9 d with
    | some (.list xs) => if (PyData.list xs).showable = true ∧ (PyData.list xs).shown.length ≤ sizeLine then .ok (.str (PyData.list xs).shown, 0) μ else .bad
    | some (.tuple xs) => if (PyData.tuple xs).showable = true ∧ (PyData.tuple xs).shown.length ≤ sizeLine then .ok (.str (PyData.tuple xs).shown, 0) μ else .bad
    | _ => strD ds μ)
  | _ => .bad
def biTab : List (Str × (List D → Sto → R (D × Nat))) := [("len", lenD), ("int", intD), ("abs", absD), ("max", maxD), ("min", minD), ("list", listD), ("tuple", tupleD), ("all", allD), ("any", anyD), ("sum", sumD), ("isinstance", isinD), ("str", strD), ("str*", strA)]
def biD (f : Str) (ds : List D) (μ : Sto) : R (D × Nat) := match biTab.lookup f with
  | some g => g ds μ
  | none => .bad
/-- no reference into the store -/
def noRef : Nat → D → Bool
  | 0, _ => false
  | _ + 1, .cell _ => false
  | n + 1, .lst xs => xs.all (noRef n)
  | n + 1, .tup xs => xs.all (noRef n)
  | _ + 1, _ => true
def mayPut (b l : Nat) (d : D) : Bool := decide (b ≤ l) || noRef 9 d
def appendD (b l : Nat) (xs : List D) (ds : List D) (μ : Sto) : R (D × Nat) := match ds with
  | [d] => if xs.length < sizeLine ∧ mayPut b l d = true then .ok (.non, 0) (μ.set l (.lst (xs ++ [d]))) else .bad
  | _ => .bad
def popD (b l : Nat) (xs : List D) (ds : List D) (μ : Sto) : R (D × Nat) := match ds with
  | [] => (match xs[xs.length - 1]? with | some y => .ok (y, 0) (μ.set l (.lst xs.dropLast)) | none => .bad)
  | [d] => (match d with
    | .int i => (match ixN xs.length i with
      | some k => (match xs[k]? with | some y => if -(2 ^ 63) ≤ i ∧ i < 2 ^ 63 then .ok (y, 0) (μ.set l (.lst (xs.eraseIdx k))) else .bad | none => .bad)
      | none => .bad)
    | _ => .bad)
  | _ => .bad
def bmTab : List (Str × (Nat → Nat → List D → List D → Sto → R (D × Nat))) := [("append", appendD), ("pop", popD)]
def bmD (b : Nat) (m : Str) (o : D) (ds : List D) (μ : Sto) : R (D × Nat) := match bmTab.lookup m with
  | some g => (match o with
    | .cell l => (match μ[l]? with
      | some (.lst xs) => g b l xs ds μ
      | _ => .bad)
    | _ => .bad)
  | none => .bad
def setD (b : Nat) (o i v : D) (μ : Sto) : Option Sto :=
  match o, i with
  | .cell l, .int k => match μ[l]? with
    | some (.lst xs) => match ixN xs.length k with
      | some j => if mayPut b l v then some (μ.set l (.lst (xs.set j v))) else none
      | none => none
    | _ => none
  | _, _ => none

/-! ### what is walked -/
inductive Src where
  | data (xs : List D) | cell (n : Nat) | zip (a b : Src) | enum (a : Src)
inductive Nx where
  | bad | done | item (d : D)
def nxO : Option D → Nx
  | some d => .item d
  | none => .done
def nxZ : Nx → Nx → Nx
  | .item x, .item y => .item (.tup [x, y])
  | .bad, _ => .bad
  | _, .bad => .bad
  | _, _ => .done
def nxE (i : Nat) : Nx → Nx
  | .item x => .item (.tup [.int (i : Nat), x])
  | r => r
def Src.at (μ : Sto) (i : Nat) : Src → Nx
  | .data xs => nxO xs[i]?
  | .cell n => match μ[n]? with | some (.lst xs) => nxO xs[i]? | _ => .bad
  | .zip a b => nxZ (a.at μ i) (b.at μ i)
  | .enum a => nxE i (a.at μ i)
def Src.size (μ : Sto) : Src → Nat
  | .data xs => xs.length
  | .cell n => match μ[n]? with | some (.lst xs) => xs.length | _ => 0
  | .zip a b => min (a.size μ) (b.size μ)
  | .enum a => a.size μ
def srcL (μ : Sto) : D → Option Src
  | .lst xs => some (.data xs)
  | .cell n => match μ[n]? with | some (.lst _) => some (.cell n) | _ => none
  | .scr ns => some (.data (ns.map .int))
  | _ => none
def rangeD (lo : Int) (n : Nat) : List D := (List.range n).map fun i => .int (lo + (i : Nat))
def smallI (i : Int) : Bool := decide (-(2 ^ 62) ≤ i) && decide (i < 2 ^ 62)

structure Tb where
  call : Str → Nat → List D → Sto → R (D × Nat)
  glob : Str → Option D
  wh : (Nat → RS) → RS

/-- targets that are names alone -/
def bindL : Nat → Tg → D → Ev → Option Ev
  | 0, _, _, _ => none
  | _ + 1, .name i, d, ρ => some (ρ.set i (some d))
  | n + 1, .tup (.cons s (.cons t .nil)), .tup [x, y], ρ => (bindL n s x ρ).bind (bindL n t y)
  | _ + 1, _, _, _ => none
def wipeD : Ev → List Nat → Ev
  | ρ, [] => ρ
  | ρ, v :: vs => (wipeD ρ vs).set v none
def lcLoop (f : D → Sto → R (Option D)) (src : Src) : Nat → Nat → List D → Sto → R (List D)
  | 0, _, _, _ => .bad
  | k + 1, i, acc, μ => match src.at μ i with
    | .bad => .bad
    | .done => .ok acc μ
    | .item x => (f x μ).bind fun y μ1 => match y with
      | none => lcLoop f src k (i + 1) acc μ1
      | some d => if acc.length < sizeLine then lcLoop f src k (i + 1) (acc ++ [d]) μ1 else .bad
def noErr {α : Type} (r : R α) : R α := match r with | .err _ _ => .bad | r => r

mutual
def evE (T : Tb) (b : Nat) : E → Ev → Sto → R (D × Nat)
  | .bad, _, _ => .bad
  | .npart, _, μ => .ok (.non, 0) μ
  | .var i, ρ, μ => match ρ[i]? with | some (some d) => .ok (d, 0) μ | _ => .bad
  | .non, _, μ => .ok (.non, 0) μ
  | .bl k, _, μ => .ok (.bl k, 0) μ
  | .int i, _, μ => .ok (.int i, 0) μ
  | .str s, _, μ => .ok (.str s, 0) μ
  | .glob x, _, μ => sh (T.glob x) μ
  | .bin op x y, ρ, μ => (evE T b x ρ μ).bind fun d μ1 => (evE T b y ρ μ1).bind fun e μ2 => binD op d.1 e.1 μ2
  | .neg x, ρ, μ => (evE T b x ρ μ).bind fun d μ1 => negD d.1 μ1
  | .not x, ρ, μ => (evE T b x ρ μ).bind fun d μ1 => sh ((truD μ1 d.1).map fun k => .bl !k) μ1
  | .and x y, ρ, μ => (evE T b x ρ μ).bind fun d μ1 => match truD μ1 d.1 with | some true => evE T b y ρ μ1 | some false => .ok (d.1, 0) μ1 | none => .bad
  | .or x y, ρ, μ => (evE T b x ρ μ).bind fun d μ1 => match truD μ1 d.1 with | some false => evE T b y ρ μ1 | some true => .ok (d.1, 0) μ1 | none => .bad
  | .cmp op x y, ρ, μ => (evE T b x ρ μ).bind fun d μ1 => (evE T b y ρ μ1).bind fun e μ2 => sh ((cmpD op d.1 e.1 μ2).map .bl) μ2
  | .cmp2 op op2 x y z, ρ, μ => (evE T b x ρ μ).bind fun d μ1 => (evE T b y ρ μ1).bind fun e μ2 => match cmpD op d.1 e.1 μ2 with
    | some true => (evE T b z ρ μ2).bind fun g μ3 => sh ((cmpD op2 e.1 g.1 μ3).map .bl) μ3
    | some false => .ok (.bl false, 0) μ2
    | none => .bad
  | .ife t x y, ρ, μ => (evE T b t ρ μ).bind fun d μ1 => match truD μ1 d.1 with | some true => evE T b x ρ μ1 | some false => evE T b y ρ μ1 | none => .bad
  | .lst es, ρ, μ => (evEs T b es ρ μ).bind fun ds μ1 => if ds.length ≤ sizeLine then .ok (.lst ds, 1) μ1 else .bad
  | .tup es, ρ, μ => (evEs T b es ρ μ).bind fun ds μ1 => if ds.length ≤ sizeLine then .ok (.tup ds, 0) μ1 else .bad
  | .ix x i, ρ, μ => (evE T b x ρ μ).bind fun d μ1 => (evE T b i ρ μ1).bind fun e μ2 => sh (ixD d.1 e.1 μ2) μ2
  | .slc x lo hi, ρ, μ => (evE T b x ρ μ).bind fun d μ1 => (evE T b lo ρ μ1).bind fun l μ2 => match partD l.1 with
    | none => .bad
    | some lv => (evE T b hi ρ μ2).bind fun h μ3 => match partD h.1 with
      | none => .bad
      | some hv => slD d.1 lv hv μ3
  | .call f es, ρ, μ => (evEs T b es ρ μ).bind fun ds μ1 => T.call f b ds μ1
  | .bi f es, ρ, μ => (evEs T b es ρ μ).bind fun ds μ1 => biD f ds μ1
  | .bm o m es, ρ, μ => (evE T b o ρ μ).bind fun d μ1 => match itemsL μ1 d.1 with
    | none => .bad
    | some _ => (evEs T b es ρ μ1).bind fun ds μ2 => bmD b m d.1 ds μ2
  | .fld _ _, _, _ => .bad
  | .lc elt tg it c own, ρ, μ => (evIt T b it ρ μ).bind fun src μ1 =>
      (noErr (lcLoop (fun x μ => match bindL 3 tg x (wipeD ρ own) with
        | none => .bad
        | some ρ1 => (evE T b c ρ1 μ).bind fun k μ1 => match truD μ1 k.1 with
          | some true => (evE T b elt ρ1 μ1).bind fun y μ2 => .ok (some y.1) μ2
          | some false => .ok none μ1
          | none => .bad) src (src.size μ1 + 1) 0 [] μ1)).bind fun xs μ2 => .ok (.lst xs, 1) μ2
  | .thaw e, ρ, μ => (evE T b e ρ μ).bind fun d μ1 => match d with
    | (.lst xs, f + 1) => .ok (.cell μ1.length, 0) (μ1 ++ [.lst xs])
    | _ => .bad
def evEs (T : Tb) (b : Nat) : Es → Ev → Sto → R (List D)
  | .nil, _, μ => .ok [] μ
  | .cons e es, ρ, μ => (evE T b e ρ μ).bind fun d μ1 => (evEs T b es ρ μ1).bind fun ds μ2 => .ok (d.1 :: ds) μ2
def evIt (T : Tb) (b : Nat) : It → Ev → Sto → R Src
  | .ex e, ρ, μ => (evE T b e ρ μ).bind fun d μ1 => okR (match d.1 with | .tup xs => some (.data xs) | d => srcL μ1 d) μ1
  | .rng1 e, ρ, μ => (evE T b e ρ μ).bind fun d μ1 => match d.1 with | .int j => if smallI j then .ok (.data (rangeD 0 j.toNat)) μ1 else .bad | _ => .bad
  | .rng2 e g, ρ, μ => (evE T b e ρ μ).bind fun d μ1 => (evE T b g ρ μ1).bind fun h μ2 => match d.1, h.1 with
    | .int i, .int j => if smallI i && smallI j then .ok (.data (rangeD i (j - i).toNat)) μ2 else .bad
    | _, _ => .bad
  | .zip e g, ρ, μ => (evE T b e ρ μ).bind fun d μ1 => (evE T b g ρ μ1).bind fun h μ2 => match srcL μ2 d.1, srcL μ2 h.1 with
    | some x, some y => .ok (.zip x y) μ2
    | _, _ => .bad
  | .enum e, ρ, μ => (evE T b e ρ μ).bind fun d μ1 => okR ((srcL μ1 d.1).map .enum) μ1
end

def tgsLen : Tgs → Nat
  | .nil => 0
  | .cons _ ts => tgsLen ts + 1
mutual
def asg (T : Tb) (b : Nat) : Tg → D → Ev → Sto → RS
  | .bad, _, _, _ => .bad
  | .name i, d, ρ, μ => .nx (ρ.set i (some d)) μ
  | .tup ts, .tup xs, ρ, μ => if xs.length = tgsLen ts then asgs T b ts xs ρ μ else .bad
  | .tup _, _, _, _ => .bad
  | .sub o i, d, ρ, μ => match evE T b o ρ μ with
    | .ok od μ1 => match evE T b i ρ μ1 with
      | .ok id μ2 => match setD b od.1 id.1 d μ2 with | some μ3 => .nx ρ μ3 | none => .bad
      | .err x μ2 => .err x ρ μ2
      | .bad => .bad
    | .err x μ1 => .err x ρ μ1
    | .bad => .bad
  | .fld _ _, _, _, _ => .bad
def asgs (T : Tb) (b : Nat) : Tgs → List D → Ev → Sto → RS
  | .nil, [], ρ, μ => .nx ρ μ
  | .cons t ts, d :: ds, ρ, μ => match asg T b t d ρ μ with
    | .nx ρ1 μ1 => asgs T b ts ds ρ1 μ1
    | r => r
  | _, _, _, _ => .bad
end
def R.st {α : Type} (r : R α) (ρ : Ev) (f : α → Sto → RS) : RS := match r with
  | .ok a μ => f a μ
  | .err x μ => .err x ρ μ
  | .bad => .bad
def forLoop (asn : D → Ev → Sto → RS) (body : Ev → Sto → RS) (src : Src) : Nat → Nat → Ev → Sto → RS
  | 0, _, _, _ => .bad
  | k + 1, i, ρ, μ => match src.at μ i with
    | .bad => .bad
    | .done => .nx ρ μ
    | .item x => match asn x ρ μ with
      | .nx ρ1 μ1 => match body ρ1 μ1 with
        | .nx ρ2 μ2 => forLoop asn body src k (i + 1) ρ2 μ2
        | .ct ρ2 μ2 => forLoop asn body src k (i + 1) ρ2 μ2
        | .brk ρ2 μ2 => .nx ρ2 μ2
        | r => r
      | .err x ρ μ => .err x ρ μ
      | _ => .bad
def whLoop (test : Ev → Sto → R Bool) (body : Ev → Sto → RS) : Nat → Ev → Sto → RS
  | 0, _, _ => .bad
  | k + 1, ρ, μ => (test ρ μ).st ρ fun t μ1 => match t with
    | false => .nx ρ μ1
    | true => match body ρ μ1 with
      | .nx ρ2 μ2 => whLoop test body k ρ2 μ2
      | .ct ρ2 μ2 => whLoop test body k ρ2 μ2
      | .brk ρ2 μ2 => .nx ρ2 μ2
      | r => r
def tst (r : R (D × Nat)) : R Bool := r.bind fun d μ => okR (truD μ d.1) μ
def onlyNx : RS → RS
  | .nx ρ μ => .nx ρ μ
  | .err x ρ μ => .err x ρ μ
  | _ => .bad
mutual
def runS (T : Tb) (b : Nat) : S → Ev → Sto → RS
  | .bad, _, _ => .bad
  | .set t e, ρ, μ => (evE T b e ρ μ).st ρ fun d μ1 => onlyNx (asg T b t d.1 ρ μ1)
  | .par i j x y, ρ, μ => (evE T b x ρ μ).st ρ fun d μ1 => (evE T b y ρ μ1).st ρ fun e μ2 => .nx ((ρ.set i (some d.1)).set j (some e.1)) μ2
  | .expr e, ρ, μ => (evE T b e ρ μ).st ρ fun _ μ1 => .nx ρ μ1
  | .ret e, ρ, μ => (evE T b e ρ μ).st ρ fun d μ1 => .ret d.1 d.2 μ1
  | .retn, _, μ => .ret .non 0 μ
  | .ife t x y, ρ, μ => (tst (evE T b t ρ μ)).st ρ fun k μ1 => match k with | true => runSs T b x ρ μ1 | false => runSs T b y ρ μ1
  | .for_ t it x, ρ, μ => (evIt T b it ρ μ).st ρ fun src μ1 => forLoop (asg T b t) (fun ρ μ => runSs T b x ρ μ) src (src.size μ1 + 1) 0 ρ μ1
  | .while_ t x, ρ, μ => T.wh fun n => whLoop (fun ρ μ => tst (evE T b t ρ μ)) (fun ρ μ => runSs T b x ρ μ) n ρ μ
  | .brk, ρ, μ => .brk ρ μ
  | .cnt, ρ, μ => .ct ρ μ
  | .pass, ρ, μ => .nx ρ μ
def runSs (T : Tb) (b : Nat) : Ss → Ev → Sto → RS
  | .nil, ρ, μ => .nx ρ μ
  | .cons s ss, ρ, μ => match runS T b s ρ μ with
    | .nx ρ1 μ1 => runSs T b ss ρ1 μ1
    | r => r
end

/-! ### defs -/
structure Fn where
  ps : Nat
  ns : Nat
  keep : Bool
  body : Ss
/-- cells from n on made data -/
def frz (n : Nat) (μ : Sto) : Nat → D → Option D
  | 0, _ => none
  | k + 1, .lst xs => (xs.mapM (frz n μ k)).map .lst
  | k + 1, .tup xs => (xs.mapM (frz n μ k)).map .tup
  | k + 1, .cell l => if l < n then some (.cell l) else match μ[l]? with | some (.lst xs) => (xs.mapM (frz n μ k)).map .lst | _ => none
  | _ + 1, d => some d
def frzTop (n : Nat) (d : D) (f : Nat) (μ : Sto) : Option (D × Nat) := match d with
  | .cell l => if l < n then some (.cell l, 0) else match μ[l]? with
    | some (.lst xs) => (xs.mapM (frz n (μ.set l (.dct [])) 9)).map fun ys => (.lst ys, 1)
    | _ => none
  | d => (frz n μ 9 d).map fun d' => (d', f)
def fin (keep : Bool) (n : Nat) (d : D) (f : Nat) (μ : Sto) : R (D × Nat) :=
  if keep then .ok (d, f) μ else okR (frzTop n d f μ) (μ.take n)
def exitF (keep : Bool) (n : Nat) : RS → R (D × Nat)
  | .nx _ μ => fin keep n .non 0 μ
  | .ret d f μ => fin keep n d f μ
  | .err x _ μ => .err x (if keep then μ else μ.take n)
  | _ => .bad
def runFn (T : Tb) (fn : Fn) (b : Nat) (ds : List D) (μ : Sto) : R (D × Nat) :=
  if ds.length = fn.ps then exitF fn.keep μ.length (runSs T (if fn.keep then b else μ.length) fn.body (ds.map some ++ List.replicate (fn.ns - fn.ps) none) μ) else .bad
structure Pg where
  fns : Str → Option Fn
  glob : Str → Option D
  wh : (Nat → RS) → RS
def tb (P : Pg) : Nat → Tb
  | 0 => ⟨fun _ _ _ _ => .bad, P.glob, P.wh⟩
  | n + 1 => ⟨fun f b ds μ => match P.fns f with | some fn => runFn (tb P n) fn b ds μ | none => .bad, P.glob, P.wh⟩

/-! ### the translation -/
abbrev Sc := List (Str × NameKind)
def slotOf : List Str → Str → Option Nat
  | [], _ => none
  | y :: r, x => if y = x then some 0 else (slotOf r x).map (· + 1)
def isLoc : Option NameKind → Bool
  | some .local => true
  | some .cell => true
  | some .free => true
  | _ => false
def isStar : Expr → Bool
  | .Starred .. => true
  | _ => false
def isLc : Expr → Bool
  | .ListComp .. | .SetComp .. | .DictComp .. => true
  | _ => false
def biNames : List Str := ["len", "int", "abs", "max", "min", "list", "tuple", "all", "any", "sum", "isinstance"]
def bmNames : List Str := ["append", "pop"]
def tyNames : List Str := ["int", "bool", "list", "str", "tuple"]
structure Tr where
  th : List (Nat × Nat × Nat)
  N : List Str
  defs : List Str
  cs : Bool
def withTh (X : Tr) (p : Pos) (e : E) : E := if X.th.contains (p.line, p.col, p.endCol) then .thaw e else e
def relN (names sc : Sc) : Sc := names.map fun y => if (y.2 == .free && sc.lookup y.1 == some .cell) then (y.1, .cell) else y
def esOf : List E → Es
  | [] => .nil
  | e :: r => .cons e (esOf r)
def tgsOf : List Tg → Tgs
  | [] => .nil
  | e :: r => .cons e (tgsOf r)
def boolE (op : BoolOp) : List E → E
  | [] => .bad
  | [a] => a
  | a :: r => match op with | .And => .and a (boolE op r) | .Or => .or a (boolE op r)
def isSet : Expr → Bool
  | .Set .. => true
  | _ => false
def isSlice : Expr → Bool
  | .Slice .. => true
  | _ => false
def ownOf (N : List Str) (names : Sc) : List (Str × Nat) := names.filterMap fun y => match y.2 with
  | .local | .cell => (slotOf N y.1).map fun i => (y.1, i)
  | _ => none
def simpleO : Expr → Bool
  | .Name .. => true
  | .Attribute .. => true
  | .Subscript .. => true
  | _ => false
def isTup : Expr → Bool
  | .Tuple .. => true
  | _ => false
mutual
def tgIn (own : List Nat) : Tg → Bool
  | .name i => own.contains i
  | .tup ts => tgsIn own ts
  | _ => false
def tgsIn (own : List Nat) : Tgs → Bool
  | .nil => true
  | .cons t ts => tgIn own t && tgsIn own ts
end
def globN (sc : Sc) (x : Str) : Bool := sc.lookup x == some .globalImplicit
mutual
def trE (X : Tr) : Nat → Sc → Expr → E
  | 0, _, _ => .bad
  | n + 1, sc, e => match e with
    | .Constant c _ _ => match c with | .int i => .int i | .bool b => .bl b | .none => .non | .str s => .str s | _ => .bad
    | .Name x _ => if x == "__debug__" || x == "__classdict__" then .bad else if isLoc (sc.lookup x) then (match slotOf X.N x with | some i => .var i | none => .bad) else if globN sc x then .glob x else .bad
    | .BinOp a op b p => withTh X p (.bin op (trE X n sc a) (trE X n sc b))
    | .UnaryOp op a _ => match op with | .USub => .neg (trE X n sc a) | .Not => .not (trE X n sc a) | _ => .bad
    | .BoolOp op vs _ => boolE op (vs.map (trE X n sc))
    | .Compare a ops bs _ => match ops, bs with
      | [op], [b] => if isSet b then .bad else .cmp op (trE X n sc a) (trE X n sc b)
      | [op, op2], [b, c] => if isSet c then .bad else .cmp2 op op2 (trE X n sc a) (trE X n sc b) (trE X n sc c)
      | _, _ => .bad
    | .IfExp t a b _ => .ife (trE X n sc t) (trE X n sc a) (trE X n sc b)
    | .List es p => if es.any isStar then .bad else withTh X p (.lst (esOf (es.map (trE X n sc))))
    | .Tuple es _ _ => if es.any isStar then .bad else .tup (esOf (es.map (trE X n sc)))
    | .Subscript a i p => match i with
      | .Slice lo hi st _ => match st with
        | none => withTh X p (.slc (trE X n sc a) (match lo with | some l => trE X n sc l | none => .npart) (match hi with | some l => trE X n sc l | none => .npart))
        | some _ => .bad
      | _ => .ix (trE X n sc a) (trE X n sc i)
    | .Call f es ks p => if es.any isStar || !ks.isEmpty then .bad else match f with
      | .Name x _ => if globN sc x then (if X.defs.contains x && x != "__debug__" && !es.isEmpty then withTh X p (.call x (esOf (es.map (trE X n sc)))) else if biNames.contains x && !es.isEmpty then withTh X p (.bi x (esOf (es.map (trE X n sc)))) else if x == "str" && !es.isEmpty then withTh X p (.bi (if X.cs then "str*" else "str") (esOf (es.map (trE X n sc)))) else .bad) else .bad
      | .Attribute o m ap => if bmNames.contains m && simpleO o && (ap.endLine == p.line) && decide (es.length < 30) then withTh X p (.bm (trE X n sc o) m (esOf (es.map (trE X n sc)))) else .bad
      | _ => .bad
    | .ListComp elt gs scope p => match gs with
      | [⟨tg, it, ifs, a⟩] => if a = 0 then if blkC X.N ⟨.function, sc, false, false, []⟩ scope (ownOf X.N scope.names) && tgIn ((ownOf X.N scope.names).map (·.2)) (trN X n (relN scope.names sc) tg) && !isSet it then
          withTh X p (.lc (trE X n (relN scope.names sc) elt) (trN X n (relN scope.names sc) tg) (trI X n sc (isTup tg) it) (match ifs with | [] => .bl true | [c] => trE X n (relN scope.names sc) c | _ => .bad) ((ownOf X.N scope.names).map (·.2)))
        else .bad else .bad
      | _ => .bad
    | _ => .bad
/-- a target of names alone -/
def trN (X : Tr) : Nat → Sc → Expr → Tg
  | 0, _, _ => .bad
  | n + 1, sc, e => match e with
    | .Name x _ => if sc.lookup x == some .local || sc.lookup x == some .cell then (match slotOf X.N x with | some i => .name i | none => .bad) else .bad
    | .Tuple es _ _ => if es.any isStar then .bad else .tup (tgsOf (es.map (trN X n sc)))
    | _ => .bad
def trI (X : Tr) : Nat → Sc → Bool → Expr → It
  | 0, _, _, _ => .ex .bad
  | n + 1, sc, tt, e => match e with
    | .Call f es ks _ => (match f with
      | .Name x _ => if globN sc x && !X.defs.contains x && ks.isEmpty then
        (if x == "range" then (match es with
          | [a] => if isStar a then .ex .bad else .rng1 (trE X n sc a)
          | [a, b] => if isStar a || isStar b then .ex .bad else .rng2 (trE X n sc a) (trE X n sc b)
          | _ => .ex .bad)
        else if x == "zip" then (match es with
          | [a, b] => if isStar a || isStar b || !tt then .ex .bad else .zip (trE X n sc a) (trE X n sc b)
          | _ => .ex .bad)
        else if x == "enumerate" then (match es with
          | [a] => if isStar a || !tt then .ex .bad else .enum (trE X n sc a)
          | _ => .ex .bad)
        else .ex (trE X n sc e))
        else .ex (trE X n sc e)
      | _ => .ex (trE X n sc e))
    | _ => .ex (trE X n sc e)
end
def isListE : Expr → Bool
  | .List .. => true
  | _ => false
def locName (sc : Sc) (line : Nat) : Expr → Bool
  | .Name x p => sc.lookup x == some .local && p.line == line
  | _ => false
def lineOf : List Expr → Nat
  | [] => 0
  | e :: _ => e.pos.line
def ssOf : List S → Ss
  | [] => .nil
  | s :: r => .cons s (ssOf r)
def trAsg (X : Tr) (sc : Sc) (t e : Expr) : S := match t, e with
  | .Tuple ts k p, .Tuple es k2 p2 =>
    if ts.all (locName sc (lineOf ts)) then (match ts, es with
      | [.Name x _, .Name y _], [a, b] => if x == y || isStar a || isStar b || es.all (foldedForSure 8) || es.all (constantsAlone 8) then .bad else (match slotOf X.N x, slotOf X.N y with
        | some i, some j => .par i j (trE X 60 sc a) (trE X 60 sc b)
        | _, _ => .bad)
      | _, _ => .bad)
    else .set (trT' X sc (.Tuple ts k p)) (trE X 60 sc (.Tuple es k2 p2))
  | .Name x p, .ListComp elt gs scope p2 =>
    if sc.lookup x == some .cell then .set (trT' X sc (.Name x p)) (trE X 60 sc (.ListComp elt gs scope p2))
    else if sc.lookup x == some .local && p.line == p2.line && !(scope.names.any fun y => y.1 == x && (y.2 == .local || y.2 == .cell)) then
      (match slotOf X.N x with | some i => .set (.name i) (trE X 60 sc (.ListComp elt gs scope p2)) | none => .bad)
    else .bad
  | t, e => if isStar t || isListE t then .bad else .set (trT' X sc t) (trE X 60 sc e)
where
  trT' (X : Tr) (sc : Sc) (e : Expr) : Tg := match e with
  | .Name x p => trN X 60 sc (.Name x p)
  | .Subscript o i _ => if isSlice i then .bad else .sub (trE X 60 sc o) (trE X 60 sc i)
  | .Tuple es _ _ => if es.any isStar then .bad else .tup (tgsOf (es.map fun t => match t with
    | .Name x p => trN X 60 sc (.Name x p)
    | .Subscript o i _ => if isSlice i then .bad else .sub (trE X 60 sc o) (trE X 60 sc i)
    | _ => .bad))
  | _ => .bad
def trS (X : Tr) (sc : Sc) : Nat → Stmt → S
  | 0, _ => .bad
  | n + 1, s => match s with
    | .Assign ts e _ => (match ts with | [t] => trAsg X sc t e | _ => .bad)
    | .Expr e _ => (match e with | .Constant (.str _) _ _ => .pass | e => if isLc e then .bad else .expr (trE X 60 sc e))
    | .Return (some e) _ => .ret (trE X 60 sc e)
    | .Return none _ => .retn
    | .If t a b _ => .ife (trE X 60 sc t) (ssOf (a.map (trS X sc n))) (ssOf (b.map (trS X sc n)))
    | .For t it a b _ => if b.isEmpty && !isSet it then .for_ (trN X 60 sc t) (trI X 60 sc (isTup t) it) (ssOf (a.map (trS X sc n))) else .bad
    | .While t a b _ => if b.isEmpty then .while_ (trE X 60 sc t) (ssOf (a.map (trS X sc n))) else .bad
    | .Pass _ => .pass
    | .Break _ => .brk
    | .Continue _ => .cnt
    | _ => .bad
def trSs (X : Tr) (sc : Sc) (ss : List Stmt) : Ss := ssOf (ss.map (trS X sc 60))
end VM

set_option Elab.async false
set_option maxRecDepth 100000
/-! how the machine's state lies in the model's -/
namespace VM
open PySem PySem.Spec PyProof.Rows L2

abbrev AP_ := Addr → Prop
/-- what stands behind the global names; the written part -/
structure Gb where
  f : Str → Option V
  K : PySem.W.Frag
def KL (K : PySem.W.Frag) (a : Addr) (xs : List V) : Prop := ∃ (o : Obj) (its : Array Value) (n : Nat), K.lookup a = some o ∧ o.cls = .type "list" ∧ o.dict = none ∧ o.data = .seq its n ∧ its.size ≤ sizeLine ∧ Vals xs its.toList
mutual
inductive RV (G : Gb) (A : AP_) (m : List Addr) (H : Hp) : V → D → Prop
  | non : RV G A m H .non .non
  | bl (b : Bool) : RV G A m H (.bl b) (.bl b)
  | int (i : Int) : RV G A m H (.int i) (.int i)
  | str (s : Str) : RV G A m H (.str s) (.str s)
  | ty (n : String) : RV G A m H (.ty n) (.ty n)
  | fn {x : Str} {v : V} : G.f x = some v → RV G A m H v (.fn x)
  | lst {a : Addr} {vs : List V} {ds : List D} : Rd H a (.lst vs) → ¬ A a → RVs G A m H vs ds → RV G A m H (.ref a) (.lst ds)
  | tup {a : Addr} {vs : List V} {ds : List D} : H a = some (.tup vs) → ¬ A a → RVs G A m H vs ds → RV G A m H (.ref a) (.tup ds)
  | cell {l : Nat} {a : Addr} : m[l]? = some a → RV G A m H (.ref a) (.cell l)
  | scr {a : Addr} {ns : List Int} : (Rd H a (.lst (ns.map .int)) ∧ ¬ A a ∨ KL G.K a (ns.map .int)) → RV G A m H (.ref a) (.scr ns)
inductive RVs (G : Gb) (A : AP_) (m : List Addr) (H : Hp) : List V → List D → Prop
  | nil : RVs G A m H [] []
  | cons {v : V} {d : D} {vs : List V} {ds : List D} : RV G A m H v d → RVs G A m H vs ds → RVs G A m H (v :: vs) (d :: ds)
end
/-- what data keeps away from: S and the cells -/
def av (S : AP_) (m : List Addr) : AP_ := fun a => S a ∨ a ∈ m
def avx (S : AP_) (m : List Addr) (p : Addr) : AP_ := fun a => av S m a ∨ a = p

mutual
def below (b : Nat) : D → Prop
  | .cell l => l < b
  | .lst xs => belowL b xs
  | .tup xs => belowL b xs
  | _ => True
def belowL (b : Nat) : List D → Prop
  | [] => True
  | x :: xs => below b x ∧ belowL b xs
end
def cBelow (b : Nat) : C → Prop
  | .lst xs => belowL b xs
  | .dct kvs => ∀ p ∈ kvs, below b p.2
  | .ins _ fs => ∀ p ∈ fs, below b p.2

def CR (G : Gb) (A : AP_) (m : List Addr) (H : Hp) (a : Addr) : C → Prop
  | .lst ds => ∃ vs, H a = some (.lst vs) ∧ RVs G A m H vs ds
  | .dct kvs => ∃ ks, H a = some (.dK ks) ∧ ks.map (·.1) = kvs.map (·.1) ∧ RVs G A m H (ks.map (·.2)) (kvs.map (·.2))
  | .ins c fs => ∃ Ca dx gs, G.f c = some (.ref Ca) ∧ H a = some (.ins Ca dx gs) ∧ gs.map (·.1) = fs.map (·.1) ∧ RVs G A m H (gs.map (·.2)) (fs.map (·.2))

structure Rep (G : Gb) (S : AP_) (B : Nat → Prop) (m : List Addr) (μ : Sto) (H : Hp) : Prop where
  len : m.length = μ.length
  nd : m.Nodup
  at_ : ∀ (l : Nat) (a : Addr) (c : C), m[l]? = some a → μ[l]? = some c → CR G (av S m) m H a c
  lev : ∀ x, B x → x ≤ μ.length ∧ ∀ (l : Nat) (c : C), l < x → μ[l]? = some c → cBelow x c
  trk : ∀ a, S a → (∃ o, H a = some o) ∧ a ∉ m

structure Evo (m : List Addr) (H : Hp) (m' : List Addr) (H' : Hp) : Prop where
  ext : ∃ e, m' = m ++ e
  keep : ∀ a o, H a = some o → a ∉ m → H' a = some o ∧ a ∉ m'
  dom : ∀ a o, H a = some o → ∃ o', H' a = some o'

theorem Evo.refl (m : List Addr) (H : Hp) : Evo m H m H := ⟨⟨[], by simp⟩, fun _ _ e n => ⟨e, n⟩, fun _ o e => ⟨o, e⟩⟩
theorem Evo.trans {m m1 m2 : List Addr} {H H1 H2 : Hp} (a : Evo m H m1 H1) (b : Evo m1 H1 m2 H2) : Evo m H m2 H2 := by
  refine ⟨?_, fun x o e n => ?_, fun x o e => ?_⟩
  · obtain ⟨e1, rfl⟩ := a.ext
    obtain ⟨e2, rfl⟩ := b.ext
    exact ⟨e1 ++ e2, by simp⟩
  · obtain ⟨e1, n1⟩ := a.keep x o e n
    exact b.keep x o e1 n1
  · obtain ⟨o1, e1⟩ := a.dom x o e
    exact b.dom x o1 e1
theorem Evo.free {m m' : List Addr} {H H' : Hp} (e : Evo m H m' H') {a : Addr} (h : H' a = none) : H a = none := by
  cases q : H a with
  | none => rfl
  | some o =>
    obtain ⟨o', e'⟩ := e.dom a o q
    rw [h] at e'; cases e'
theorem Evo.at {m m' : List Addr} {H H' : Hp} (e : Evo m H m' H') {l : Nat} {a : Addr} (h : m[l]? = some a) : m'[l]? = some a := by
  obtain ⟨x, rfl⟩ := e.ext
  have hl : l < m.length := (List.getElem?_eq_some_iff.mp h).1
  rw [List.getElem?_append_left hl]; exact h

section
variable {G : Gb} {S : AP_} {B : Nat → Prop} {m m' : List Addr} {μ : Sto} {H H' : Hp}
mutual
theorem RV.imp {A A' : AP_} (hm : ∀ (l : Nat) (a : Addr), m[l]? = some a → m'[l]? = some a) (hk : ∀ a o, H a = some o → ¬ A a → H' a = some o ∧ ¬ A' a) :
    ∀ {v : V} {d : D}, RV G A m H v d → RV G A' m' H' v d
  | _, _, .non => .non
  | _, _, .bl b => .bl b
  | _, _, .int i => .int i
  | _, _, .str s => .str s
  | _, _, .ty n => .ty n
  | _, _, .fn g => .fn g
  | _, _, .lst (a := a) r n t => by
    rcases r with r | ⟨o, r⟩
    · exact .lst (.inl (hk _ _ r n).1) (hk _ _ r n).2 (RVs.imp hm hk t)
    · exact .lst (.inr ⟨o, (hk _ _ r n).1⟩) (hk _ _ r n).2 (RVs.imp hm hk t)
  | _, _, .tup r n t => .tup (hk _ _ r n).1 (hk _ _ r n).2 (RVs.imp hm hk t)
  | _, _, .cell e => .cell (hm _ _ e)
  | _, _, .scr h => by
    rcases h with ⟨r | ⟨o, r⟩, n⟩ | h
    · exact .scr (.inl ⟨.inl (hk _ _ r n).1, (hk _ _ r n).2⟩)
    · exact .scr (.inl ⟨.inr ⟨o, (hk _ _ r n).1⟩, (hk _ _ r n).2⟩)
    · exact .scr (.inr h)
theorem RVs.imp {A A' : AP_} (hm : ∀ (l : Nat) (a : Addr), m[l]? = some a → m'[l]? = some a) (hk : ∀ a o, H a = some o → ¬ A a → H' a = some o ∧ ¬ A' a) :
    ∀ {vs : List V} {ds : List D}, RVs G A m H vs ds → RVs G A' m' H' vs ds
  | _, _, .nil => .nil
  | _, _, .cons r t => .cons (RV.imp hm hk r) (RVs.imp hm hk t)
end
theorem RV.evo {v : V} {d : D} (e : Evo m H m' H') (r : RV G (av S m) m H v d) : RV G (av S m') m' H' v d :=
  r.imp (fun _ _ => e.at) fun a o h n => ⟨(e.keep a o h fun z => n (.inr z)).1, fun z => z.elim (fun z => n (.inl z)) (e.keep a o h fun z => n (.inr z)).2⟩
theorem RVs.evo {vs : List V} {ds : List D} (e : Evo m H m' H') (r : RVs G (av S m) m H vs ds) : RVs G (av S m') m' H' vs ds :=
  r.imp (fun _ _ => e.at) fun a o h n => ⟨(e.keep a o h fun z => n (.inr z)).1, fun z => z.elim (fun z => n (.inl z)) (e.keep a o h fun z => n (.inr z)).2⟩
theorem RVs.evox {vs : List V} {ds : List D} {p : Addr} (e : Evo m H m' H') (r : RVs G (avx S m p) m H vs ds) : RVs G (avx S m' p) m' H' vs ds :=
  r.imp (fun _ _ => e.at) fun a o h n => ⟨(e.keep a o h fun z => n (.inl (.inr z))).1, fun z => z.elim (fun z => z.elim (fun z => n (.inl (.inl z))) (e.keep a o h fun z => n (.inl (.inr z))).2) fun z => n (.inr z)⟩
theorem RVs.length {A : AP_} : ∀ {vs : List V} {ds : List D}, RVs G A m H vs ds → vs.length = ds.length
  | _, _, .nil => rfl
  | _, _, .cons _ t => by simp [RVs.length t]
theorem RVs.get {A : AP_} : ∀ {vs : List V} {ds : List D} {i : Nat} {d : D}, RVs G A m H vs ds → ds[i]? = some d → ∃ v, vs[i]? = some v ∧ RV G A m H v d
  | _, _, _, _, .nil, e => by simp at e
  | _, _, 0, _, .cons r _, e => by simp at e; subst e; exact ⟨_, rfl, r⟩
  | _, _, i + 1, _, .cons _ t, e => by
    obtain ⟨v, h1, h2⟩ := RVs.get (i := i) t (by simpa using e)
    exact ⟨v, by simpa using h1, h2⟩
theorem RVs.append {A : AP_} : ∀ {vs ws : List V} {ds es : List D}, RVs G A m H vs ds → RVs G A m H ws es → RVs G A m H (vs ++ ws) (ds ++ es)
  | _, _, _, _, .nil, s => s
  | _, _, _, _, .cons r t, s => .cons r (t.append s)
theorem RVs.set {A : AP_} {v : V} {d : D} (r : RV G A m H v d) : ∀ {vs : List V} {ds : List D} (i : Nat), RVs G A m H vs ds → RVs G A m H (vs.set i v) (ds.set i d)
  | _, _, _, .nil => .nil
  | _, _, 0, .cons _ t => .cons r t
  | _, _, i + 1, .cons q t => .cons q (RVs.set r i t)
theorem RVs.take {A : AP_} : ∀ {vs : List V} {ds : List D} (n : Nat), RVs G A m H vs ds → RVs G A m H (vs.take n) (ds.take n)
  | _, _, 0, _ => by simpa using RVs.nil
  | _, _, _ + 1, .nil => .nil
  | _, _, n + 1, .cons r t => .cons r (RVs.take n t)
theorem RVs.drop {A : AP_} : ∀ {vs : List V} {ds : List D} (n : Nat), RVs G A m H vs ds → RVs G A m H (vs.drop n) (ds.drop n)
  | _, _, 0, r => r
  | _, _, _ + 1, .nil => .nil
  | _, _, n + 1, .cons _ t => RVs.drop n t
theorem RVs.dropLast {A : AP_} {vs : List V} {ds : List D} (r : RVs G A m H vs ds) : RVs G A m H vs.dropLast ds.dropLast := by
  rw [List.dropLast_eq_take, List.dropLast_eq_take, r.length]; exact r.take _
theorem RVs.eraseIdx {A : AP_} : ∀ {vs : List V} {ds : List D} (i : Nat), RVs G A m H vs ds → RVs G A m H (vs.eraseIdx i) (ds.eraseIdx i)
  | _, _, _, .nil => .nil
  | _, _, 0, .cons _ t => t
  | _, _, i + 1, .cons q t => .cons q (RVs.eraseIdx i t)
theorem RVs.rep {A : AP_} {vs : List V} {ds : List D} (r : RVs G A m H vs ds) : ∀ k : Nat, RVs G A m H (List.replicate k vs).flatten (List.replicate k ds).flatten
  | 0 => .nil
  | k + 1 => by rw [List.replicate_succ, List.replicate_succ, List.flatten_cons, List.flatten_cons]; exact r.append (RVs.rep r k)

theorem av_new (R : Rep G S B m μ H) {p : Addr} (hp : H p = none) : ¬ av S m p := by
  rintro (z | z)
  · obtain ⟨⟨o, e⟩, _⟩ := R.trk p z
    rw [hp] at e; cases e
  · obtain ⟨l, hl, e⟩ := List.getElem_of_mem z
    have h1 : m[l]? = some p := by rw [List.getElem?_eq_getElem hl, e]
    have hl2 : l < μ.length := by rw [← R.len]; exact hl
    have h2 : μ[l]? = some μ[l] := List.getElem?_eq_getElem hl2
    have c := R.at_ l p _ h1 h2
    cases q : μ[l] with
    | lst ds => rw [q] at c; obtain ⟨vs, e, _⟩ := c; rw [hp] at e; cases e
    | dct ds => rw [q] at c; obtain ⟨vs, e, _⟩ := c; rw [hp] at e; cases e
    | ins cc fs => rw [q] at c; obtain ⟨_, _, _, _, e, _⟩ := c; rw [hp] at e; cases e
theorem CR.imp {A A' : AP_} {a : Addr} {c : C} (hm : ∀ (l : Nat) (a : Addr), m[l]? = some a → m'[l]? = some a) (hk : ∀ a o, H a = some o → ¬ A a → H' a = some o ∧ ¬ A' a)
    (ha : ∀ o, H a = some o → H' a = some o) (r : CR G A m H a c) : CR G A' m' H' a c := by
  cases c with
  | lst ds => obtain ⟨vs, e, t⟩ := r; exact ⟨vs, ha _ e, t.imp hm hk⟩
  | dct kvs => obtain ⟨ks, e, k, t⟩ := r; exact ⟨ks, ha _ e, k, t.imp hm hk⟩
  | ins c fs => obtain ⟨x, y, z, g, e, k, t⟩ := r; exact ⟨x, y, z, g, ha _ e, k, t.imp hm hk⟩
/-- the heap grows alone -/
theorem Rep.grow (R : Rep G S B m μ H) (k : Same H H') : Rep G S B m μ H' :=
  ⟨R.len, R.nd, fun l a c h1 h2 => (R.at_ l a c h1 h2).imp (fun _ _ e => e) (fun _ _ e n => ⟨k _ _ e, n⟩) fun _ e => k _ _ e, R.lev, fun a z => ⟨let ⟨o, e⟩ := (R.trk a z).1; ⟨o, k _ _ e⟩, (R.trk a z).2⟩⟩
theorem Evo.grow (k : Same H H') : Evo m H m H' := ⟨⟨[], by simp⟩, fun _ _ e n => ⟨k _ _ e, n⟩, fun _ o e => ⟨o, k _ _ e⟩⟩
theorem same_new {p : Addr} {o : HO} (hp : H p = none) : Same H (upd H p o) := fun _ _ e => by rw [upd_ne (ne_of_none e hp)]; exact e
theorem Rep.mem_trk (R : Rep G S B m μ H) {l : Nat} {a : Addr} (h : m[l]? = some a) : ∃ o, H a = some o := by
  cases q : H a with
  | none => exact absurd (Or.inr (List.mem_of_getElem? h)) (av_new R q)
  | some o => exact ⟨o, rfl⟩
theorem nodup_at (nd : m.Nodup) {l k : Nat} {a : Addr} (h1 : m[l]? = some a) (h2 : m[k]? = some a) : l = k := by
  obtain ⟨a1, e1⟩ := List.getElem?_eq_some_iff.mp h1
  obtain ⟨a2, e2⟩ := List.getElem?_eq_some_iff.mp h2
  exact (List.getElem_inj nd).mp (e1.trans e2.symm)
/-- a cell is written -/
theorem Evo.put {a : Addr} {o : HO} (ha : a ∈ m) : Evo m H m (upd H a o) := by
  refine ⟨⟨[], by simp⟩, fun x u e n => ⟨?_, n⟩, fun x u e => ?_⟩
  · rw [upd_ne fun z => n (by rw [z]; exact ha)]; exact e
  · by_cases h : x = a
    · subst h; exact ⟨o, upd_same⟩
    · exact ⟨u, by rw [upd_ne h]; exact e⟩
theorem Rep.put (R : Rep G S B m μ H) {l : Nat} {a : Addr} {o : HO} {c : C} (h : m[l]? = some a) (hc : CR G (av S m) m (upd H a o) a c) (hb : ∀ x, B x → l < x → cBelow x c) :
    Rep G S B m (μ.set l c) (upd H a o) := by
  have ha := List.mem_of_getElem? h
  have E : Evo m H m (upd H a o) := Evo.put ha
  have hl : l < μ.length := by rw [← R.len]; exact (List.getElem?_eq_some_iff.mp h).1
  refine ⟨by rw [List.length_set]; exact R.len, R.nd, fun k b u h1 h2 => ?_, fun x hx => ⟨by rw [List.length_set]; exact (R.lev x hx).1, fun k u hk h2 => ?_⟩, fun x z => ⟨let ⟨u, e⟩ := (R.trk x z).1; E.dom _ _ e, (R.trk x z).2⟩⟩
  · by_cases hk : k = l
    · subst hk
      rw [h] at h1; cases h1
      rw [List.getElem?_set_self hl] at h2; cases h2
      exact hc
    · rw [List.getElem?_set_ne (Ne.symm hk)] at h2
      have nb : b ≠ a := fun z => hk (nodup_at R.nd (z ▸ h1) h)
      exact (R.at_ k b u h1 h2).imp (fun _ _ e => e) (fun x w e n => ⟨(E.keep x w e fun z => n (.inr z)).1, n⟩) fun w e => by rw [upd_ne nb]; exact e
  · by_cases hkl : k = l
    · subst hkl
      rw [List.getElem?_set_self hl] at h2; cases h2
      exact hb x hx hk
    · rw [List.getElem?_set_ne (Ne.symm hkl)] at h2
      exact (R.lev x hx).2 k u hk h2
theorem belowL_iff {b : Nat} : ∀ {xs : List D}, belowL b xs ↔ ∀ x ∈ xs, below b x
  | [] => by simp [belowL]
  | x :: xs => by simp [belowL, belowL_iff (xs := xs)]
theorem below_noRef {b : Nat} : ∀ (n : Nat) (d : D), noRef n d = true → below b d
  | 0, _, h => by simp [noRef] at h
  | n + 1, d, h => by
    cases d with
    | lst xs =>
      have h' : ∀ x ∈ xs, noRef n x = true := by simpa [noRef] using h
      unfold below
      exact belowL_iff.mpr fun x hx => below_noRef n x (h' x hx)
    | tup xs =>
      have h' : ∀ x ∈ xs, noRef n x = true := by simpa [noRef] using h
      unfold below
      exact belowL_iff.mpr fun x hx => below_noRef n x (h' x hx)
    | cell l => simp [noRef] at h
    | _ => unfold below; trivial
/-- a new list becomes a cell -/
theorem Rep.thaw (R : Rep G S B m μ H) {a : Addr} {vs : List V} {ds : List D} (ha : H a = some (.lst vs)) (hn : ¬ av S m a) (t : RVs G (avx S m a) m H vs ds)
    (hk : ∀ (l : Nat) (b : Addr) (c : C), m[l]? = some b → μ[l]? = some c → CR G (avx S m a) m H b c) : Rep G S B (m ++ [a]) (μ ++ [.lst ds]) H := by
  have hm : ∀ (l : Nat) (b : Addr), m[l]? = some b → (m ++ [a])[l]? = some b := fun l b e => by
    rw [List.getElem?_append_left (List.getElem?_eq_some_iff.mp e).1]; exact e
  have hA : ∀ (x : Addr) (o : HO), H x = some o → ¬ avx S m a x → H x = some o ∧ ¬ av S (m ++ [a]) x := fun x o e n => ⟨e, fun z => by
    rcases z with z | z
    · exact n (.inl (.inl z))
    · rcases List.mem_append.mp z with z | z
      · exact n (.inl (.inr z))
      · exact n (.inr (by simpa using z))⟩
  refine ⟨by simp [R.len], ?_, fun l b c h1 h2 => ?_, fun x hx => ⟨by have := (R.lev x hx).1; simp; omega, fun l c hl h2 => ?_⟩, fun x z => ⟨(R.trk x z).1, fun w => ?_⟩⟩
  · rw [List.nodup_append]
    exact ⟨R.nd, by simp, fun x hx y hy => by
      have : y = a := by simpa using hy
      subst this
      exact fun z => hn (.inr (z ▸ hx))⟩
  · by_cases hl : l < m.length
    · rw [List.getElem?_append_left hl] at h1
      rw [List.getElem?_append_left (by rw [← R.len]; exact hl)] at h2
      exact (hk l b c h1 h2).imp hm hA fun _ e => e
    · have hl2 : l = m.length := by
        have := (List.getElem?_eq_some_iff.mp h1).1
        simp at this; omega
      subst hl2
      rw [List.getElem?_append_right (Nat.le_refl _)] at h1
      rw [R.len, List.getElem?_append_right (Nat.le_refl _)] at h2
      simp at h1 h2
      subst h1; subst h2
      exact ⟨vs, ha, t.imp hm hA⟩
  · have hxl := (R.lev x hx).1
    rw [List.getElem?_append_left (by omega)] at h2
    exact (R.lev x hx).2 l c hl h2
  · rcases List.mem_append.mp w with w | w
    · exact (R.trk x z).2 w
    · have : x = a := by simpa using w
      subst this
      exact hn (.inl z)
end
end VM

set_option Elab.async false
set_option maxRecDepth 100000
set_option linter.unusedVariables false
/-! what a run asks; the single operations -/
namespace VM
open PySem PySem.Spec PyProof.Rows L2

/-- a new list: nothing else holds it -/
structure NW (G : Gb) (S : AP_) (H0 : Hp) (m : List Addr) (μ : Sto) (H : Hp) (v : V) (d : D) : Prop where
  ex : ∃ a vs ds, v = .ref a ∧ d = .lst ds ∧ H0 a = none ∧ H a = some (.lst vs) ∧ RVs G (avx S m a) m H vs ds ∧
    ∀ (l : Nat) (b : Addr) (c : C), m[l]? = some b → μ[l]? = some c → CR G (avx S m a) m H b c
def NWP (f : Nat) (G : Gb) (S : AP_) (H0 : Hp) (m : List Addr) (μ : Sto) (H : Hp) (v : V) (d : D) : Prop := f = 0 ∨ NW G S H0 m μ H v d

def ExcR (G : Gb) (x : Exc) (cls : Value) (dd : Option Addr) (H : Hp) : Prop :=
  ∃ C, cls = .ref C ∧ G.f x.cls = some (.ref C) ∧ match x.val with
    | none => dd = none
    | some d => ∃ a i, d = .int i ∧ dd = some a ∧ H a = some (.xd [("number", .int i)])

def PostE (G : Gb) (S : AP_) (B : Nat → Prop) (W : L2.WX) (m : List Addr) (H : Hp) (σ : L2.St) (Q : V → Hp → Prop) : R (D × Nat) → Prop
  | .ok d μ' => ∀ v H' m', Evo m H m' H' → Rep G S B m' μ' H' → RV G (av S m') m' H' v d.1 → NWP d.2 G S H m' μ' H' v d.1 → Q v H'
  | .err x μ' => ∀ cls dd H' m', Evo m H m' H' → Rep G S B m' μ' H' → ExcR G x cls dd H' → W cls dd σ H'
  | .bad => False

section
variable {G : Gb} {S : AP_} {B : Nat → Prop} {W : L2.WX} {m m1 m' : List Addr} {μ μ1 : Sto} {H H1 H' : Hp} {σ : L2.St} {Q Q1 : V → Hp → Prop}
theorem PostE.shift {r : R (D × Nat)} (e : Evo m H m1 H1) (h : PostE G S B W m H σ Q r) : PostE G S B W m1 H1 σ Q r := by
  cases r with
  | ok d μ' =>
    intro v H' m' e1 R r n
    refine h v H' m' (e.trans e1) R r ?_
    rcases n with n | ⟨a, vs, ds, e2, e3, e4, e5⟩
    · exact .inl n
    · exact .inr ⟨a, vs, ds, e2, e3, e.free e4, e5⟩
  | err x μ' => exact fun cls dd H' m' e1 R r => h cls dd H' m' (e.trans e1) R r
  | bad => exact h
theorem PostE.bind {r : R (D × Nat)} {f : D × Nat → Sto → R (D × Nat)} (h : PostE G S B W m H σ Q (r.bind f))
    (k : ∀ (d : D × Nat) (μ1 : Sto) (v : V) (H1 : Hp) (m1 : List Addr), r = .ok d μ1 → Evo m H m1 H1 → Rep G S B m1 μ1 H1 → RV G (av S m1) m1 H1 v d.1 → NWP d.2 G S H m1 μ1 H1 v d.1 → PostE G S B W m1 H1 σ Q (f d μ1) → Q1 v H1) :
    PostE G S B W m H σ Q1 r := by
  cases r with
  | ok d μ1 => exact fun v H1 m1 e R r n => k d μ1 v H1 m1 rfl e R r n (PostE.shift e h)
  | err x μ' => exact h
  | bad => exact h
/-- the heap grew by a new thing -/
theorem NW.new (R : Rep G S B m μ H) {p : Addr} {vs : List V} {ds : List D} (hp : H p = none) (t : RVs G (av S m) m H vs ds) : NW G S H m μ (upd H p (.lst vs)) (.ref p) (.lst ds) := by
  have kk : ∀ (x : Addr) (o : HO), H x = some o → ¬ av S m x → upd H p (.lst vs) x = some o ∧ ¬ avx S m p x := fun x o e n => ⟨same_new hp _ _ e, fun z => z.elim n (ne_of_none e hp)⟩
  refine ⟨p, vs, ds, rfl, rfl, hp, upd_same, t.imp (fun _ _ e => e) kk, fun l b c h1 h2 => ?_⟩
  exact (R.at_ l b c h1 h2).imp (fun _ _ e => e) kk fun o e => same_new hp _ _ e
theorem PostE.newL {p : Addr} {vs : List V} {ds : List D} {f : Nat} (h : PostE G S B W m H σ Q (.ok (.lst ds, f) μ)) (R : Rep G S B m μ H) (t : RVs G (av S m) m H vs ds) (hp : H p = none) :
    Q (.ref p) (upd H p (.lst vs)) := by
  have k : Same H (upd H p (.lst vs)) := same_new hp
  refine h _ _ m (Evo.grow k) (R.grow k) (.lst (.inl upd_same) (av_new R hp) (t.evo (Evo.grow k))) (.inr (NW.new R hp t))
theorem PostE.newT {p : Addr} {vs : List V} {ds : List D} (h : PostE G S B W m H σ Q (.ok (.tup ds, 0) μ)) (R : Rep G S B m μ H) (t : RVs G (av S m) m H vs ds) (hp : H p = none) :
    Q (.ref p) (upd H p (.tup vs)) := by
  have k : Same H (upd H p (.tup vs)) := same_new hp
  exact h _ _ m (Evo.grow k) (R.grow k) (.tup upd_same (av_new R hp) (t.evo (Evo.grow k))) (.inl rfl)
theorem PostE.val {v : V} {d : D} (h : PostE G S B W m H σ Q (.ok (d, 0) μ)) (R : Rep G S B m μ H) (r : RV G (av S m) m H v d) : Q v H :=
  h v H m (Evo.refl m H) R r (.inl rfl)
theorem PostE.shv {v : V} {o : Option D} (h : PostE G S B W m H σ Q (sh o μ)) (R : Rep G S B m μ H) (r : ∀ d, o = some d → RV G (av S m) m H v d) : Q v H := by
  cases o with
  | none => exact h.elim
  | some d => exact PostE.val h R (r d rfl)
/-- a list to be read -/
theorem items_at (R : Rep G S B m μ H) {v : V} {d : D} {xs : List D} (r : RV G (av S m) m H v d) (e : itemsL μ d = some xs) :
    ∃ a vs, v = .ref a ∧ Rd H a (.lst vs) ∧ RVs G (av S m) m H vs xs := by
  cases r with
  | lst hr hn t => cases e; exact ⟨_, _, rfl, hr, t⟩
  | @cell l a hm =>
    have e' : (match μ[l]? with | some (C.lst xs) => some xs | _ => none) = some xs := e
    split at e'
    · rename_i q
      cases e'
      obtain ⟨vs, e1, t⟩ := R.at_ l a _ hm q
      exact ⟨a, vs, rfl, .of e1, t⟩
    · cases e'
  | _ => cases e
theorem RVs.ofInts {A : AP_} : ∀ ns : List Int, RVs G A m H (ns.map V.int) (ns.map D.int)
  | [] => .nil
  | n :: r => .cons (.int n) (RVs.ofInts r)
theorem itemsR_at (R : Rep G S B m μ H) {v : V} {d : D} {xs : List D} (r : RV G (av S m) m H v d) (e : itemsR μ d = some xs) :
    ∃ a vs, v = .ref a ∧ SqL G.K H a vs ∧ RVs G (av S m) m H vs xs := by
  have gen : ∀ {d : D} {v : V}, RV G (av S m) m H v d → itemsL μ d = some xs → ∃ a vs, v = .ref a ∧ SqL G.K H a vs ∧ RVs G (av S m) m H vs xs := by
    intro d v r e
    obtain ⟨a, vs, e1, e2, e3⟩ := items_at R r e
    exact ⟨a, vs, e1, .inl e2, e3⟩
  cases r with
  | scr h =>
    cases e
    refine ⟨_, _, rfl, ?_, .ofInts _⟩
    rcases h with h | h
    · exact .inl h.1
    · exact .inr h
  | lst h n t => exact gen (.lst h n t) e
  | cell h => exact gen (.cell h) e
  | _ => cases e
end
end VM

set_option Elab.async false
set_option maxRecDepth 100000
set_option autoImplicit false
set_option linter.unusedVariables false
/-! the operations by their rules -/
namespace VM
open PySem PySem.Spec PyProof.Rows L2
abbrev P2 := D → D → Sto → R (D × Nat)
def rP2 (G : Gb) (f : P2) : R2 := fun x y H Q => ∃ S B W m μ σ d e, Rep G S B m μ H ∧ RV G (av S m) m H x d ∧ RV G (av S m) m H y e ∧ PostE G S B W m H σ Q (f d e μ)

section
variable {X : Cx}
/-! lists, by reading -/
theorem op_catR : OpR X (binaryOp .Add) (fun x y H Q => ∃ l b xs zs, x = .ref l ∧ y = .ref b ∧ SqL X.K H l xs ∧ SqL X.K H b zs ∧ xs.length + zs.length ≤ sizeLine ∧ ∀ p, H p = none → Q (.ref p) (upd H p (.lst (xs ++ zs)))) := by
  intro pins s σ H x y v u Q I rx ry h
  obtain ⟨l, b, xs, zs, rfl, rfl, hH, hB, hz, q⟩ := h
  cases rx
  cases ry
  obtain ⟨its, r, ⟨⟨c1, d1, t1, s1⟩, n, e, hc, hd, hdt⟩, z⟩ := I.list hH
  obtain ⟨its2, r2, ⟨⟨c2, d2, t2, s2⟩, n2, e2, hc2, hd2, hdt2⟩, z2⟩ := I.list hB
  simp only at hc hd hdt hc2 hd2 hdt2
  subst hc hd hdt hc2 hd2 hdt2
  have hl := r.length
  have hl2 := r2.length
  have ea : its.toArray ++ its2.toArray = (its ++ its2).toArray := by simp
  refine concat_meets ⟨_, e, rfl⟩ ⟨_, e2, rfl⟩ noFill_list_add seq_list_add PySem.F.slot_list_add PySem.F.entry_list_add (PySem.F.args_list_add_2 _ _) (list_addW l b its.toArray its2.toArray n n2 none none s1 s2 (by rw [List.size_toArray, List.size_toArray]; omega)) ⟨e, e2, ?_⟩
  rw [ea]
  exact ⟨.ref _, _, I.lnew (t' := s.toks) (r.append r2) (by rw [List.length_append]; omega), rfl, q _ I.fresh⟩
theorem op_repR : OpR X (binaryOp .Mult) (fun x y H Q => ∃ l k xs, x = .ref l ∧ y = .int k ∧ Rd H l (.lst xs) ∧ -(2 ^ 63) ≤ k ∧ k < 2 ^ 63 ∧ xs.length * k.toNat ≤ sizeLine ∧
  ∀ p, H p = none → Q (.ref p) (upd H p (.lst (List.replicate k.toNat xs).flatten))) := by
  intro pins s σ H x y v u Q I rx ry h
  obtain ⟨l, k, xs, rfl, rfl, hH, h1, h2, hz, q⟩ := h
  cases rx
  obtain ⟨t, rfl⟩ := ry
  obtain ⟨z, its, n, r, e⟩ := hH.ok I.hok
  have hl := r.length
  have hlen : its.toArray.size * k.toNat ≤ sizeLine := by rw [List.size_toArray, ← hl]; exact hz
  have hcap : ¬ its.toArray.size * k.toNat > (2 ^ 63 - 1) / 8 := by
    have : (sizeLine : Nat) ≤ (2 ^ 63 - 1) / 8 := by decide
    omega
  have hfit : ¬ (!Builtin.List.listFitsIndex k) = true := by
    rw [fitsIndex_both h1 h2]
    exact Bool.false_ne_true
  have hlong : ¬ Builtin.List.listTooLong (its.toArray.size * k.toNat) = true := by
    rw [notLongL hlen]
    exact Bool.false_ne_true
  have hnew : List.foldl (fun x1 x2 => x1 ++ x2) #[] (List.replicate (if its.toArray.isEmpty = true then 0 else k.toNat) its.toArray) = (List.replicate k.toNat its).flatten.toArray := by
    have f0 : ∀ m : Nat, List.foldl (fun x1 x2 => x1 ++ x2) #[] (List.replicate m its.toArray) = (List.replicate m its).flatten.toArray := fun m => by
      have := foldl_rep its m []
      rw [List.nil_append] at this
      exact this
    rw [f0]
    cases its with
    | nil => simp
    | cons a r' => rw [if_neg (by simp)]
  refine wpAny_binaryOp_repeat_ref (T := "list") (U := "int") (by decide) ⟨_, e, rfl⟩ (fun s' => typeIs_int s' k t) noFill_list_mul F.fills_int_mul F.slot_int_rmul repeat_list F.slot_int_index.lookup
    (call_meets F.slot_int_rmul (typeIs_int s k t) F.entry_int_rmul (F.args_int_rmul_2 _ _) (int___rmul___int_list k t l its.toArray n)
      ⟨e, rfl, ⟨_, e, rfl⟩, call_meets F.slot_list_mul ⟨_, e, rfl⟩ F.entry_list_mul (F.args_list_mul_2 _ _) (AutoListH.list___mul___list_int_3 l its.toArray n k t hfit hcap hlong) ⟨e, ?_⟩⟩)
  rw [hnew]
  exact ⟨.ref _, _, I.lnew (t' := s.toks) (r.rep k.toNat) (by rw [PyProof.Rows.lm_len_rep_flat, Nat.mul_comm]; exact hz), rfl, q _ I.fresh⟩
theorem mulBig {i j : Int} (h : i.natAbs.log2 + j.natAbs.log2 < 130000000) : IntMulOk i j := by
  have b : ∀ x : Int, Builtin.Int.intBits x ≤ x.natAbs.log2 + 1 := fun x => by
    unfold Builtin.Int.intBits
    split <;> omega
  have h1 := b i
  have h2 := b j
  have e : bitsLine = 134217728 := by decide
  unfold IntMulOk
  intro z
  rw [Bool.and_eq_true] at z
  have z2 := z.2
  unfold Builtin.Int.intTooBig at z2
  have z3 := of_decide_eq_true z2
  rw [e] at z3
  omega
theorem op_mulB : OpR X (binaryOp .Mult) (rI (fun i j => i.natAbs.log2 + j.natAbs.log2 < 130000000) fun i j => .int (i * j)) := opI fun _ _ _ _ _ _ _ hc q => mul_int q (mulBig hc)
theorem op_fdivB : OpR X (binaryOp .FloorDiv) (rI (fun _ j => j ≠ 0 ∧ j.natAbs.log2 < 9000) fun i j => .int (i.fdiv j)) := opI fun _ _ _ _ _ _ _ hc q => floordiv_int hc.1 q (.inl (PyProof.noPylong_of_log2 hc.2))

variable {G : Gb}
theorem OpR.imp {f : Value → Value → Sem Value} {r r' : R2} (h : OpR X f r) (k : ∀ x y H Q, r' x y H Q → r x y H Q) : OpR X f r' := fun pins s σ H x y v u Q I rx ry q => h pins s σ H x y v u Q I rx ry (k _ _ _ _ q)
theorem OpR.or2 {f : Value → Value → Sem Value} {r r' : R2} (h : OpR X f r) (h' : OpR X f r') : OpR X f (fun x y H Q => r x y H Q ∨ r' x y H Q) := fun pins s σ H x y v u Q I rx ry q => by
  rcases q with q | q
  · exact h pins s σ H x y v u Q I rx ry q
  · exact h' pins s σ H x y v u Q I rx ry q
theorem ifR {α : Type} {c : Prop} [Decidable c] {P : R α → Prop} {a : R α} (h : P (if c then a else .bad)) (hb : ¬ P .bad) : c ∧ P a := by
  by_cases hc : c
  · rw [if_pos hc] at h; exact ⟨hc, h⟩
  · rw [if_neg hc] at h; exact absurd h hb
theorem op_add (hK : X.K = G.K) : OpR X (binaryOp .Add) (rP2 G addD) := by
  refine OpR.imp (OpR.or2 L2.op_add (OpR.or2 op_add_str (OpR.or2 op_catT op_catR))) ?_
  rintro x y H Q ⟨S, B, W, m, μ, σ, d, e, R, rd, re, P⟩
  unfold addD at P
  have lists : ∀ {d : D} {x : V}, RV G (av S m) m H x d → PostE G S B W m H σ Q (match itemsR μ d with
      | none => .bad
      | some xs => match itemsR μ e with
        | none => .bad
        | some ys => if xs.length + ys.length ≤ sizeLine then .ok (.lst (xs ++ ys), 1) μ else .bad) →
      (∃ l b xs zs, x = V.ref l ∧ y = V.ref b ∧ SqL X.K H l xs ∧ SqL X.K H b zs ∧ xs.length + zs.length ≤ sizeLine ∧ ∀ p, H p = none → Q (.ref p) (upd H p (.lst (xs ++ zs)))) := by
    intro d x rd P
    cases h1 : itemsR μ d with
    | none => rw [h1] at P; exact P.elim
    | some xs =>
      cases h2 : itemsR μ e with
      | none => rw [h1, h2] at P; exact P.elim
      | some ys =>
        rw [h1, h2] at P
        obtain ⟨hz, P⟩ := ifR P id
        obtain ⟨a, vs, rfl, s1, t1⟩ := itemsR_at R rd h1
        obtain ⟨b, ws, rfl, s2, t2⟩ := itemsR_at R re h2
        exact ⟨a, b, vs, ws, rfl, rfl, by rw [hK]; exact s1, by rw [hK]; exact s2, by rw [t1.length, t2.length]; exact hz, fun p hp => P.newL R (t1.append t2) hp⟩
  cases rd with
  | int i =>
    cases re with
    | int j => exact .inl ⟨i, j, rfl, rfl, P.val R (.int _)⟩
    | _ => exact P.elim
  | str i =>
    cases re with
    | str j =>
      obtain ⟨hz, P⟩ := ifR P id
      exact .inr (.inl ⟨i, j, rfl, rfl, hz, P.val R (.str _)⟩)
    | _ => exact P.elim
  | tup h1 n1 t1 =>
    cases re with
    | tup h2 n2 t2 =>
      obtain ⟨⟨z1, z2, hz⟩, P⟩ := ifR P id
      refine .inr (.inr (.inl ⟨_, _, _, _, rfl, rfl, .of h1, .of h2, ?_, by rw [t1.length, t2.length]; exact hz, fun z => ?_, fun _ p hp => P.newT R (t1.append t2) hp⟩))
      · rintro rfl; cases t1; exact z1 rfl
      · subst z; cases t2; exact absurd rfl z2
    | _ => exact P.elim
  | lst h1 n1 t1 => exact .inr (.inr (.inr (lists (.lst h1 n1 t1) P)))
  | cell h1 => exact .inr (.inr (.inr (lists (.cell h1) P)))
  | scr h1 => exact .inr (.inr (.inr (lists (.scr h1) P)))
  | _ => exact False.elim P
theorem op_mul : OpR X (binaryOp .Mult) (rP2 G mulD) := by
  refine OpR.imp (OpR.or2 op_mulB op_repR) ?_
  rintro x y H Q ⟨S, B, W, m, μ, σ, d, e, R, rd, re, P⟩
  unfold mulD at P
  cases re with
  | int k =>
    have lists : ∀ {d : D} {x : V}, RV G (av S m) m H x d → PostE G S B W m H σ Q (match itemsL μ d with
        | none => .bad
        | some xs => if -(2 ^ 63) ≤ k ∧ k < 2 ^ 63 ∧ xs.length * k.toNat ≤ sizeLine then .ok (.lst (List.replicate k.toNat xs).flatten, 1) μ else .bad) →
        (∃ l k' xs, x = V.ref l ∧ V.int k = V.int k' ∧ Rd H l (.lst xs) ∧ -(2 ^ 63) ≤ k' ∧ k' < 2 ^ 63 ∧ xs.length * k'.toNat ≤ sizeLine ∧ ∀ p, H p = none → Q (.ref p) (upd H p (.lst (List.replicate k'.toNat xs).flatten))) := by
      intro d x rd P
      cases h1 : itemsL μ d with
      | none => rw [h1] at P; exact P.elim
      | some xs =>
        rw [h1] at P
        obtain ⟨⟨z1, z2, hz⟩, P⟩ := ifR P id
        obtain ⟨a, vs, rfl, s1, t1⟩ := items_at R rd h1
        exact ⟨a, k, vs, rfl, rfl, s1, z1, z2, by rw [t1.length]; exact hz, fun p hp => P.newL R (t1.rep _) hp⟩
    cases rd with
    | int i =>
      obtain ⟨hz, P⟩ := ifR P id
      exact .inl ⟨i, k, rfl, rfl, hz, P.val R (.int _)⟩
    | lst h1 n1 t1 => exact .inr (lists (.lst h1 n1 t1) P)
    | cell h1 => exact .inr (lists (.cell h1) P)
    | _ => exact False.elim P
  | _ => exact False.elim P
theorem op_intOp {op : Operator} {f : Int → Int → Option Int} {C : Int → Int → Prop} {g : Int → Int → Int} (h : OpR X (binaryOp op) (rI C fun i j => .int (g i j)))
    (k : ∀ i j z, f i j = some z → C i j ∧ z = g i j) : OpR X (binaryOp op) (rP2 G (intOp f)) := by
  refine OpR.imp h ?_
  rintro x y H Q ⟨S, B, W, m, μ, σ, d, e, R, rd, re, P⟩
  unfold intOp at P
  cases rd with
  | int i =>
    cases re with
    | int j =>
      cases q : f i j with
      | none =>
        have P : PostE G S B W m H σ Q (sh ((f i j).map .int) μ) := P
        rw [q] at P; exact False.elim P
      | some z =>
        have P : PostE G S B W m H σ Q (sh ((f i j).map .int) μ) := P
        rw [q] at P
        obtain ⟨c, rfl⟩ := k i j z q
        exact ⟨i, j, rfl, rfl, c, PostE.val P R (.int _)⟩
    | _ => exact False.elim P
  | _ => exact False.elim P
theorem some_if {c : Prop} [Decidable c] {a z : Int} (h : (if c then some a else none) = some z) : c ∧ z = a := by
  by_cases hc : c
  · rw [if_pos hc] at h; exact ⟨hc, (Option.some.inj h).symm⟩
  · rw [if_neg hc] at h; cases h
theorem op_bin (hK : X.K = G.K) (op : Operator) : OpR X (binaryOp op) (rP2 G (binD op)) := by
  cases op with
  | Add => exact op_add hK
  | Mult => exact op_mul
  | Sub => exact op_intOp (C := fun _ _ => True) (g := fun i j => i - j) (OpR.imp L2.op_sub fun x y H Q ⟨i, j, a, b, _, q⟩ => ⟨i, j, a, b, q⟩) fun i j z e => ⟨trivial, (Option.some.inj e).symm⟩
  | Mod => exact op_intOp op_modN fun i j z e => some_if e
  | FloorDiv => exact op_intOp op_fdivB fun i j z e => some_if e
  | Pow => exact op_intOp op_pow fun i j z e => let h := some_if e; ⟨h.1, h.2⟩
  | _ => exact fun pins s σ H x y v u Q I rx ry ⟨S, B, W, m, μ, σ', d, e, R, rd, re, P⟩ => False.elim P
end
end VM

set_option Elab.async false
set_option maxRecDepth 100000
set_option autoImplicit false
set_option linter.unusedVariables false
namespace VM
open PySem PySem.Spec PyProof.Rows L2
section
variable {G : Gb} {S : AP_} {B : Nat → Prop} {m : List Addr} {μ : Sto} {H : Hp}
theorem mapM_cons {α β : Type} {f : α → Option β} {x : α} {xs : List α} {ys : List β} (h : (x :: xs).mapM f = some ys) : ∃ y zs, f x = some y ∧ xs.mapM f = some zs ∧ ys = y :: zs := by
  rw [List.mapM_cons] at h
  cases e : f x with
  | none => rw [e] at h; cases h
  | some y =>
    rw [e] at h
    cases e2 : xs.mapM f with
    | none => rw [e2] at h; cases h
    | some zs => rw [e2] at h; exact ⟨y, zs, rfl, rfl, (Option.some.inj h).symm⟩
theorem mapM_nil {α β : Type} {f : α → Option β} {ys : List β} (h : ([] : List α).mapM f = some ys) : ys = [] := by
  rw [List.mapM_nil] at h; exact (Option.some.inj h).symm
theorem map_some {α β : Type} {f : α → β} {o : Option α} {y : β} (h : o.map f = some y) : ∃ x, o = some x ∧ y = f x := by
  cases o with
  | none => cases h
  | some x => exact ⟨x, rfl, (Option.some.inj h).symm⟩
theorem dp_all {K : PySem.W.Frag} {A : AP_} {f : D → Option PyData} (ih : ∀ (d : D) (v : V) (p : PyData), f d = some p → RV G A m H v d → Dp K H v p) :
    ∀ {ds : List D} {vs : List V} {ps : List PyData}, ds.mapM f = some ps → RVs G A m H vs ds → DpAll K H vs ps
  | _, _, _, e, .nil => by rw [mapM_nil e]; exact .nil
  | _, _, _, e, .cons r t => by
    obtain ⟨y, zs, e1, e2, rfl⟩ := mapM_cons e
    exact .cons (ih _ _ _ e1 r) (dp_all ih e2 t)
theorem dp_ints {K : PySem.W.Frag} : ∀ ns : List Int, DpAll K H (ns.map V.int) (ns.map PyData.int)
  | [] => .nil
  | n :: r => .cons (.int n) (dp_ints r)
theorem dp_of (R : Rep G S B m μ H) : ∀ (n : Nat) (d : D) (v : V) (p : PyData), toPy μ n d = some p → RV G (av S m) m H v d → Dp G.K H v p
  | 0, _, _, _, e, _ => by cases e
  | n + 1, d, v, p, e, r => by
    cases r with
    | non => cases e; exact .non
    | bl b => cases e; exact .bl b
    | int i => cases e; exact .int i
    | str s => cases e; exact .str s
    | ty n => cases e
    | fn g => cases e
    | scr h1 =>
      cases e
      rcases h1 with h1 | h1
      · exact .lst (.inl h1.1) (dp_ints _)
      · exact .lst (.inr h1) (dp_ints _)
    | lst h1 n1 t =>
      obtain ⟨ps, e1, rfl⟩ := map_some e
      exact .lst (.inl h1) (dp_all (fun d v p => dp_of R n d v p) e1 t)
    | tup h1 n1 t =>
      obtain ⟨ps, e1, rfl⟩ := map_some e
      exact .tup (.of h1) (dp_all (fun d v p => dp_of R n d v p) e1 t)
    | @cell l a hm =>
      have e' : (match μ[l]? with | some (C.lst xs) => (xs.mapM (toPy μ n)).map PyData.list | _ => none) = some p := e
      split at e'
      · rename_i q
        obtain ⟨ps, e1, rfl⟩ := map_some e'
        obtain ⟨vs, e2, t⟩ := R.at_ l a _ hm q
        exact .lst (.of e2) (dp_all (fun d v p => dp_of R n d v p) e1 t)
      · cases e'
/-- a tuple or a list -/
theorem itemsS_at (R : Rep G S B m μ H) {v : V} {d : D} {xs : List D} (r : RV G (av S m) m H v d) (e : itemsS μ d = some xs) :
    ∃ a vs, v = .ref a ∧ (SqL G.K H a vs ∨ H a = some (.tup vs)) ∧ RVs G (av S m) m H vs xs := by
  have gen : ∀ {d : D} {v : V}, RV G (av S m) m H v d → itemsR μ d = some xs → ∃ a vs, v = .ref a ∧ (SqL G.K H a vs ∨ H a = some (.tup vs)) ∧ RVs G (av S m) m H vs xs := by
    intro d v r e
    obtain ⟨a, vs, e1, e2, e3⟩ := itemsR_at R r e
    exact ⟨a, vs, e1, .inl e2, e3⟩
  cases r with
  | tup h1 n1 t => cases e; exact ⟨_, _, rfl, .inr h1, t⟩
  | lst h1 n1 t => exact gen (.lst h1 n1 t) e
  | cell h1 => exact gen (.cell h1) e
  | scr h1 => exact gen (.scr h1) e
  | _ => cases e
theorem tru_at (R : Rep G S B m μ H) {v : V} {d : D} {k : Bool} (r : RV G (av S m) m H v d) (e : truD μ d = some k) : TruV G.K v H k := by
  have seq : ∀ {d : D} {v : V}, RV G (av S m) m H v d → (itemsS μ d).map (fun xs => !xs.isEmpty) = some k → TruV G.K v H k := by
    intro d v r e
    obtain ⟨xs, e1, rfl⟩ := map_some e
    obtain ⟨a, vs, rfl, h, t⟩ := itemsS_at R r e1
    have hk : (!xs.isEmpty) = !vs.isEmpty := by cases t <;> rfl
    rcases h with h | h
    · exact .inl ⟨vs, h, hk⟩
    · exact .inr (.inl ⟨vs, .of h, hk⟩)
  cases r with
  | non => cases e; rfl
  | bl b => cases e; rfl
  | int i => cases e; rfl
  | str s =>
    have e' : (if s.length ≤ sizeLine then some ((s.length : Int) != 0) else none) = some k := e
    by_cases hz : s.length ≤ sizeLine
    · rw [if_pos hz] at e'; exact ⟨hz, (Option.some.inj e').symm⟩
    · rw [if_neg hz] at e'; cases e'
  | tup h1 n1 t => exact seq (.tup h1 n1 t) e
  | lst h1 n1 t => exact seq (.lst h1 n1 t) e
  | cell h1 => exact seq (.cell h1) e
  | scr h1 => exact seq (.scr h1) e
  | _ => cases e
theorem RVs.atI {A : AP_} {vs : List V} {ds : List D} {k : Int} {d : D} (t : RVs G A m H vs ds) (e : atI ds k = some d) : ∃ v, atI vs k = some v ∧ RV G A m H v d := by
  unfold L2.atI at e ⊢
  rw [t.length]
  cases q : ixN ds.length k with
  | none => rw [q] at e; cases e
  | some j =>
    rw [q] at e
    exact t.get e
end

section
variable {X : Cx} {G : Gb}
theorem decide_strV {s t : Str} : decide (V.str s = V.str t) = decide (s = t) := by
  by_cases h : s = t
  · subst h; simp
  · rw [decide_eq_false h, decide_eq_false fun z => h (by cases z; rfl)]
theorem eqD_S {μ : Sto} {d e : D} (h : ¬ ∃ s t, d = .str s ∧ e = .str t) : eqD μ d e = eqS μ d e := by
  cases d with
  | str s =>
    cases e with
    | str t => exact absurd ⟨s, t, rfl, rfl⟩ h
    | _ => rfl
  | _ => cases e <;> rfl
theorem op_cmp (hK : X.K = G.K) (hu : X.A.units + 64 < cLine) (op : CmpOp) : OpR X (compareOp op) (rP2 G (fun a b μ => sh ((cmpD op a b μ).map .bl) μ)) := by
  have hInts : ∀ {f : Int → Int → Bool}, OpR X (compareOp op) (rI0 fun i j => .bl (f i j)) → (∀ a b μ, cmpD op a b μ = match a, b with | .int i, .int j => some (f i j) | _, _ => none) →
      OpR X (compareOp op) (rP2 G (fun a b μ => sh ((cmpD op a b μ).map .bl) μ)) := by
    intro f h k
    refine OpR.imp h ?_
    rintro x y H Q ⟨S, B, W, m, μ, σ, d, e, R, rd, re, P⟩
    cases rd with
    | int i =>
      cases re with
      | int j =>
        have P : PostE G S B W m H σ Q (sh ((cmpD op (.int i) (.int j) μ).map .bl) μ) := P
        rw [k] at P
        exact ⟨i, j, rfl, rfl, P.val R (.bl _)⟩
      | _ =>
        simp only [k] at P
        exact False.elim P
    | _ =>
      simp only [k] at P
      exact False.elim P
  cases op with
  | Lt => exact hInts op_lt fun a b μ => rfl
  | LtE => exact hInts op_le fun a b μ => rfl
  | Gt => exact hInts op_gt fun a b μ => rfl
  | GtE => exact hInts op_ge fun a b μ => rfl
  | Eq =>
    refine OpR.imp (OpR.or2 op_eq (op_eqD hu)) ?_
    rintro x y H Q ⟨S, B, W, m, μ, σ, d, e, R, rd, re, P⟩
    have P : PostE G S B W m H σ Q (sh ((eqD μ d e).map .bl) μ) := P
    by_cases hst : ∃ s t, d = .str s ∧ e = .str t
    · obtain ⟨s, t, rfl, rfl⟩ := hst
      cases rd with
      | str =>
        cases re with
        | str =>
          have P : PostE G S B W m H σ Q (.ok (.bl (decide (s = t)), 0) μ) := P
          exact .inl ⟨rfl, by rw [decide_strV]; exact P.val R (.bl _)⟩
    have P : PostE G S B W m H σ Q (sh ((eqS μ d e).map .bl) μ) := by rw [← eqD_S hst]; exact P
    right
    unfold eqS at P
    split at P
    · rename_i p q h1 h2
      by_cases hs : (SeqAt.shaped p && SeqAt.shaped q) = true
      · rw [if_pos hs] at P
        rw [Bool.and_eq_true] at hs
        exact ⟨p, q, by rw [hK]; exact dp_of R _ _ _ _ h1 rd, by rw [hK]; exact dp_of R _ _ _ _ h2 re, hs.1, hs.2, P.val R (.bl _)⟩
      · rw [if_neg hs] at P; exact False.elim P
    · exact False.elim P
  | NotEq =>
    refine OpR.imp (OpR.or2 op_ne (op_neD hu)) ?_
    rintro x y H Q ⟨S, B, W, m, μ, σ, d, e, R, rd, re, P⟩
    have P : PostE G S B W m H σ Q (sh (((eqD μ d e).map fun k => !k).map .bl) μ) := P
    by_cases hst : ∃ s t, d = .str s ∧ e = .str t
    · obtain ⟨s, t, rfl, rfl⟩ := hst
      cases rd with
      | str =>
        cases re with
        | str =>
          have P : PostE G S B W m H σ Q (.ok (.bl (!decide (s = t)), 0) μ) := P
          exact .inl ⟨rfl, by rw [decide_strV]; exact P.val R (.bl _)⟩
    have P : PostE G S B W m H σ Q (sh (((eqS μ d e).map fun k => !k).map .bl) μ) := by rw [← eqD_S hst]; exact P
    right
    unfold eqS at P
    split at P
    · rename_i p q h1 h2
      by_cases hs : (SeqAt.shaped p && SeqAt.shaped q) = true
      · rw [if_pos hs] at P
        rw [Bool.and_eq_true] at hs
        exact ⟨p, q, by rw [hK]; exact dp_of R _ _ _ _ h1 rd, by rw [hK]; exact dp_of R _ _ _ _ h2 re, hs.1, hs.2, P.val R (.bl _)⟩
      · rw [if_neg hs] at P; exact False.elim P
    · exact False.elim P
  | _ => exact fun pins s σ H x y v u Q I rx ry ⟨S, B, W, m, μ, σ', d, e, R, rd, re, P⟩ => False.elim P
theorem IxR.imp {r r' : R2} (h : IxR X r) (k : ∀ x y H Q, r' x y H Q → r x y H Q) : IxR X r' := fun a b pins s σ H x y v u Q I rx ry q => h a b pins s σ H x y v u Q I rx ry (k _ _ _ _ q)
theorem ix_rule (hK : X.K = G.K) : IxR X (rP2 G (fun a i μ => sh (ixD a i μ) μ)) := by
  refine IxR.imp (ix_list.or ix_tup) ?_
  rintro x y H Q ⟨S, B, W, m, μ, σ, d, e, R, rd, re, P⟩
  cases re with
  | int k =>
    have P : PostE G S B W m H σ Q (sh (match itemsS μ d with | some xs => atI xs k | none => none) μ) := P
    cases h : itemsS μ d with
    | none => rw [h] at P; exact False.elim P
    | some xs =>
      rw [h] at P
      have P : PostE G S B W m H σ Q (sh (atI xs k) μ) := P
      cases h2 : atI xs k with
      | none => rw [h2] at P; exact False.elim P
      | some z =>
        rw [h2] at P
        obtain ⟨a, vs, rfl, hh, t⟩ := itemsS_at R rd h
        obtain ⟨w, e1, r1⟩ := t.atI h2
        rcases hh with hh | hh
        · exact .inl ⟨a, vs, k, w, rfl, rfl, by rw [hK]; exact hh, e1, P.val R r1⟩
        · exact .inr ⟨a, vs, k, w, rfl, rfl, .of hh, e1, P.val R r1⟩
  | _ => exact False.elim P
theorem un_negR {x : V} {H : Hp} {Q : VK} {S : AP_} {B : Nat → Prop} {W : L2.WX} {m : List Addr} {μ : Sto} {σ : L2.St} {d : D} (R : Rep G S B m μ H) (rd : RV G (av S m) m H x d)
    (P : PostE G S B W m H σ Q (negD d μ)) : rU (fun i => .int (-i)) x H Q := by
  cases rd with
  | int i => exact ⟨i, rfl, P.val R (.int _)⟩
  | _ => exact False.elim P
theorem cut_len {vs : List V} {ds : List D} (h : vs.length = ds.length) (lo hi : Option Int) : cutV vs lo hi = (vs.drop (HT.sIx ds.length 0 lo)).take (HT.sIx ds.length ds.length hi - HT.sIx ds.length 0 lo) := by
  unfold cutV; rw [h]
theorem sl_listR : SlR X (fun x lo hi H Q => ∃ a xs, x = .ref a ∧ SqL X.K H a xs ∧ ∀ p, H p = none → Q (.ref p) (upd H p (.lst (cutV xs lo hi)))) := sl_list
theorem sl_at {x : V} {lo hi : Option Int} {H : Hp} {Q : VK} {S : AP_} {B : Nat → Prop} {W : L2.WX} {m : List Addr} {μ : Sto} {σ : L2.St} {d : D} (R : Rep G S B m μ H) (rd : RV G (av S m) m H x d)
    (P : PostE G S B W m H σ Q (slD d lo hi μ)) : rSlL G.K x lo hi H Q := by
  unfold slD at P
  cases h : itemsR μ d with
  | none => rw [h] at P; exact False.elim P
  | some xs =>
    rw [h] at P
    obtain ⟨a, vs, rfl, hh, t⟩ := itemsR_at R rd h
    refine ⟨a, vs, rfl, hh, fun p hp => ?_⟩
    rw [cut_len t.length]
    exact P.newL R ((t.drop _).take _) hp
theorem CallR.imp {f : Value} {r r' : List V → Hp → VK → Prop} (h : CallR X f r) (k : ∀ xs H Q, r' xs H Q → r xs H Q) : CallR X f r' := fun pins s σ H xs us Q I rs q => h pins s σ H xs us Q I rs (k _ _ _ q)
end
end VM

set_option Elab.async false
set_option maxRecDepth 100000
set_option autoImplicit false
set_option linter.unusedVariables false
namespace VM
open PySem PySem.Spec PyProof.Rows L2
def rC (G : Gb) (f : List D → Sto → R (D × Nat)) : List V → Hp → VK → Prop := fun vs H Q => ∃ S B W m μ σ ds, Rep G S B m μ H ∧ RVs G (av S m) m H vs ds ∧ PostE G S B W m H σ Q (f ds μ)
section
variable {X : Cx} {G : Gb}
theorem RVs.one {A : AP_} {m : List Addr} {H : Hp} {vs : List V} {d : D} (t : RVs G A m H vs [d]) : ∃ v, vs = [v] ∧ RV G A m H v d := by
  cases t with
  | cons r t => cases t; exact ⟨_, rfl, r⟩
theorem RVs.two {A : AP_} {m : List Addr} {H : Hp} {vs : List V} {d e : D} (t : RVs G A m H vs [d, e]) : ∃ v w, vs = [v, w] ∧ RV G A m H v d ∧ RV G A m H w e := by
  cases t with
  | cons r t => obtain ⟨w, rfl, r2⟩ := t.one; exact ⟨_, _, rfl, r, r2⟩
theorem callLen (hK : X.K = G.K) : CallR X (.builtin "len") (rC G lenD) := by
  refine CallR.imp call_len ?_
  rintro vs H Q ⟨S, B, W, m, μ, σ, ds, R, t, P⟩
  unfold lenD at P
  split at P
  · rename_i d
    obtain ⟨v, rfl, r⟩ := t.one
    have seq : ∀ {d : D} {v : V}, RV G (av S m) m H v d → PostE G S B W m H σ Q (sh ((itemsS μ d).map fun xs => .int xs.length) μ) → ∃ x n, [v] = [x] ∧ LenV X.K x H n ∧ Q (.int n) H := by
      intro d v r P
      cases h : itemsS μ d with
      | none => rw [h] at P; exact False.elim P
      | some xs =>
        rw [h] at P
        obtain ⟨a, vs, rfl, hh, tt⟩ := itemsS_at R r h
        refine ⟨_, xs.length, rfl, ?_, P.val R (.int _)⟩
        rcases hh with hh | hh
        · exact .inl ⟨vs, by rw [hK]; exact hh, tt.length.symm⟩
        · exact .inr ⟨vs, .of hh, tt.length.symm⟩
    cases r with
    | str s =>
      obtain ⟨hz, P⟩ := ifR P id
      exact ⟨_, _, rfl, ⟨hz, rfl⟩, P.val R (.int _)⟩
    | lst h1 n1 t1 => exact seq (.lst h1 n1 t1) P
    | tup h1 n1 t1 => exact seq (.tup h1 n1 t1) P
    | cell h1 => exact seq (.cell h1) P
    | scr h1 => exact seq (.scr h1) P
    | _ => exact False.elim P
  · exact False.elim P
theorem callInt : CallR X (.type "int") (rC G intD) := by
  refine CallR.imp call_int1 ?_
  rintro vs H Q ⟨S, B, W, m, μ, σ, ds, R, t, P⟩
  unfold intD at P
  split at P
  · obtain ⟨v, rfl, r⟩ := t.one
    cases r with
    | int i => exact .inl ⟨i, rfl, P.val R (.int _)⟩
    | bl i => exact .inr ⟨i, rfl, P.val R (.int _)⟩
    | _ => exact False.elim P
  · exact False.elim P
theorem callAbs : CallR X (.builtin "abs") (rC G absD) := by
  refine CallR.imp call_abs ?_
  rintro vs H Q ⟨S, B, W, m, μ, σ, ds, R, t, P⟩
  unfold absD at P
  split at P
  · obtain ⟨v, rfl, r⟩ := t.one
    cases r with
    | int i => exact ⟨i, rfl, P.val R (.int _)⟩
    | _ => exact False.elim P
  · exact False.elim P
theorem ofI_eq {d : D} {i : Int} (h : ofI d = some i) : d = .int i := by
  cases d <;> first | cases h | skip
  rfl
theorem ofB_eq {d : D} {i : Bool} (h : ofB d = some i) : d = .bl i := by
  cases d <;> first | cases h | skip
  rfl
theorem callMax (hc : X.calm = true) : CallR X (.builtin "max") (rC G maxD) := by
  refine CallR.imp (call_max2 hc) ?_
  rintro vs H Q ⟨S, B, W, m, μ, σ, ds, R, t, P⟩
  unfold maxD at P
  split at P
  · split at P
    · rename_i h1 h2
      rw [ofI_eq h1, ofI_eq h2] at t
      obtain ⟨v, w, rfl, r1, r2⟩ := t.two
      cases r1
      cases r2
      exact ⟨_, _, rfl, P.val R (.int _)⟩
    · exact False.elim P
  · exact False.elim P
theorem callMin (hc : X.calm = true) : CallR X (.builtin "min") (rC G minD) := by
  refine CallR.imp (call_min2 hc) ?_
  rintro vs H Q ⟨S, B, W, m, μ, σ, ds, R, t, P⟩
  unfold minD at P
  split at P
  · split at P
    · rename_i h1 h2
      rw [ofI_eq h1, ofI_eq h2] at t
      obtain ⟨v, w, rfl, r1, r2⟩ := t.two
      cases r1
      cases r2
      exact ⟨_, _, rfl, P.val R (.int _)⟩
    · exact False.elim P
  · exact False.elim P
theorem callList (hK : X.K = G.K) : CallR X (.type "list") (rC G listD) := by
  refine CallR.imp call_list_of ?_
  rintro vs H Q ⟨S, B, W, m, μ, σ, ds, R, t, P⟩
  unfold listD at P
  split at P
  · rename_i d
    obtain ⟨v, rfl, r⟩ := t.one
    cases h : itemsS μ d with
    | none => rw [h] at P; exact False.elim P
    | some xs =>
      rw [h] at P
      obtain ⟨a, vs, rfl, hh, tt⟩ := itemsS_at R r h
      refine ⟨a, vs, rfl, ?_, fun l hl => P.newL R tt hl⟩
      rcases hh with hh | hh
      · exact .inl (by rw [hK]; exact hh)
      · exact .inr (.of hh)
  · exact False.elim P
theorem callTuple (hK : X.K = G.K) : CallR X (.type "tuple") (rC G tupleD) := by
  refine CallR.imp call_tuple_of ?_
  rintro vs H Q ⟨S, B, W, m, μ, σ, ds, R, t, P⟩
  unfold tupleD at P
  split at P
  · rename_i d
    obtain ⟨v, rfl, r⟩ := t.one
    cases h : itemsS μ d with
    | none => rw [h] at P; exact False.elim P
    | some xs =>
      rw [h] at P
      cases r with
      | tup h1 n1 t1 =>
        cases h
        exact ⟨_, _, rfl, .inr ⟨.of h1, P.val R (.tup h1 n1 t1)⟩⟩
      | lst h1 n1 t1 =>
        obtain ⟨a, vs, e, hh, tt⟩ := itemsR_at R (.lst h1 n1 t1) h
        cases e
        exact ⟨_, vs, rfl, .inl ⟨by rw [hK]; exact hh, fun l hl => P.newT R tt hl⟩⟩
      | cell h1 =>
        obtain ⟨a, vs, e, hh, tt⟩ := itemsR_at R (.cell h1) h
        cases e
        exact ⟨_, vs, rfl, .inl ⟨by rw [hK]; exact hh, fun l hl => P.newT R tt hl⟩⟩
      | scr h1 =>
        obtain ⟨a, vs, e, hh, tt⟩ := itemsR_at R (.scr h1) h
        cases e
        exact ⟨_, vs, rfl, .inl ⟨by rw [hK]; exact hh, fun l hl => P.newT R tt hl⟩⟩
      | _ => cases h
  · exact False.elim P
theorem RVs.ints {A : AP_} {m : List Addr} {H : Hp} : ∀ {ds : List D} {vs : List V} {ks : List Int}, RVs G A m H vs ds → ds.mapM ofI = some ks → vs = ks.map V.int
  | _, _, _, .nil, e => by rw [mapM_nil e]; rfl
  | _, _, _, .cons r t, e => by
    obtain ⟨y, zs, e1, e2, rfl⟩ := mapM_cons e
    rw [ofI_eq e1] at r
    cases r
    rw [RVs.ints t e2]; rfl
theorem RVs.bls {A : AP_} {m : List Addr} {H : Hp} : ∀ {ds : List D} {vs : List V} {ks : List Bool}, RVs G A m H vs ds → ds.mapM ofB = some ks → vs = ks.map V.bl
  | _, _, _, .nil, e => by rw [mapM_nil e]; rfl
  | _, _, _, .cons r t, e => by
    obtain ⟨y, zs, e1, e2, rfl⟩ := mapM_cons e
    rw [ofB_eq e1] at r
    cases r
    rw [RVs.bls t e2]; rfl
theorem overL {α : Type} {S : AP_} {B : Nat → Prop} {W : L2.WX} {m : List Addr} {μ : Sto} {H : Hp} {σ : L2.St} {Q : VK} {v : V} {d : D} {f : D → Option α} {g : List α → D} (R : Rep G S B m μ H) (r : RV G (av S m) m H v d)
    (P : PostE G S B W m H σ Q (sh ((itemsL μ d).bind fun xs => (xs.mapM f).map fun ks => g ks) μ)) : ∃ a vs xs ks, v = .ref a ∧ Rd H a (.lst vs) ∧ RVs G (av S m) m H vs xs ∧ xs.mapM f = some ks ∧ PostE G S B W m H σ Q (.ok (g ks, 0) μ) := by
  cases h : itemsL μ d with
  | none => rw [h] at P; exact False.elim P
  | some xs =>
    rw [h] at P
    have P : PostE G S B W m H σ Q (sh ((xs.mapM f).map fun ks => g ks) μ) := P
    cases h2 : xs.mapM f with
    | none => rw [h2] at P; exact False.elim P
    | some ks =>
      rw [h2] at P
      obtain ⟨a, vs, rfl, hh, tt⟩ := items_at R r h
      exact ⟨a, vs, xs, ks, rfl, hh, tt, h2, P⟩
theorem callAll (hc : X.calm = true) : CallR X (.builtin "all") (rC G allD) := by
  refine CallR.imp (cr_all hc) ?_
  rintro vs H Q ⟨S, B, W, m, μ, σ, ds, R, t, P⟩
  unfold allD at P
  split at P
  · obtain ⟨v, rfl, r⟩ := t.one
    obtain ⟨a, vs, xs, ks, rfl, hh, tt, h2, P⟩ := overL R r P
    refine ⟨a, ks, rfl, ?_, P.val R (.bl _)⟩
    rw [← tt.bls h2]; exact .inl hh
  · exact False.elim P
theorem callAny (hc : X.calm = true) : CallR X (.builtin "any") (rC G anyD) := by
  refine CallR.imp (cr_any hc) ?_
  rintro vs H Q ⟨S, B, W, m, μ, σ, ds, R, t, P⟩
  unfold anyD at P
  split at P
  · obtain ⟨v, rfl, r⟩ := t.one
    obtain ⟨a, vs, xs, ks, rfl, hh, tt, h2, P⟩ := overL R r P
    refine ⟨a, ks, rfl, ?_, P.val R (.bl _)⟩
    rw [← tt.bls h2]; exact .inl hh
  · exact False.elim P
theorem callSum (hc : X.calm = true) : CallR X (.builtin "sum") (rC G sumD) := by
  refine CallR.imp (cr_sum hc) ?_
  rintro vs H Q ⟨S, B, W, m, μ, σ, ds, R, t, P⟩
  unfold sumD at P
  split at P
  · obtain ⟨v, rfl, r⟩ := t.one
    obtain ⟨a, vs, xs, ks, rfl, hh, tt, h2, P⟩ := overL R r P
    refine ⟨a, ks, rfl, ?_, P.val R (.int _)⟩
    rw [← tt.ints h2]; exact .inl hh
  · exact False.elim P
theorem isaT_ok {K : PySem.W.Frag} {t n : String} {k : Bool} (ht : t ∈ ["NoneType", "bool", "int", "str", "list", "tuple", "dict"]) (h : isaT t n = some k) : PySem.W.kitOne K (.type t) (.type n) = some k := by
  unfold isaT at h
  split at h
  · rename_i hn
    have hn : n ∈ ["int", "bool", "list", "str", "tuple"] := by simpa using hn
    have tab : ∀ t ∈ ["NoneType", "bool", "int", "str", "list", "tuple", "dict"], ∀ n ∈ ["int", "bool", "list", "str", "tuple"], kitB t n = some (t == n || (t == "bool" && n == "int")) := by decide +kernel
    exact kit_ty ((tab t ht n hn).trans h)
  · cases h
theorem ty_at {S : AP_} {B : Nat → Prop} {m : List Addr} {μ : Sto} {H : Hp} {v : V} {d : D} {t : String} (R : Rep G S B m μ H) (r : RV G (av S m) m H v d) (h : tyD μ d = some t) :
    TyX G.K H v (.type t) ∧ t ∈ ["NoneType", "bool", "int", "str", "list", "tuple", "dict"] := by
  cases r with
  | non => cases h; exact ⟨.base .non, by decide⟩
  | bl b => cases h; exact ⟨.base (.bl b), by decide⟩
  | int b => cases h; exact ⟨.base (.int b), by decide⟩
  | str b => cases h; exact ⟨.base (.str b), by decide⟩
  | lst h1 n1 t1 =>
    cases h
    rcases h1 with h1 | ⟨o, h1⟩
    · exact ⟨.base (.lst h1), by decide⟩
    · exact ⟨.base (.frz h1), by decide⟩
  | tup h1 n1 t1 => cases h; exact ⟨.base (.tup h1), by decide⟩
  | scr h1 =>
    cases h
    rcases h1 with ⟨h1 | ⟨o, h1⟩, _⟩ | ⟨o, its, n, h1, h2, _⟩
    · exact ⟨.base (.lst h1), by decide⟩
    · exact ⟨.base (.frz h1), by decide⟩
    · exact ⟨.kList h1 h2, by decide⟩
  | @cell l a hm =>
    have h' : (match μ[l]? with | some (C.lst _) => some "list" | some (C.dct _) => some "dict" | _ => none) = some t := h
    split at h'
    · rename_i q
      cases h'
      obtain ⟨vs, e, _⟩ := R.at_ l a _ hm q
      exact ⟨.base (.lst e), by decide⟩
    · rename_i q
      cases h'
      obtain ⟨vs, e, _⟩ := R.at_ l a _ hm q
      exact ⟨.base (.dK e), by decide⟩
    · cases h'
  | _ => cases h
theorem callIsin (hK : X.K = G.K) : CallR X (.builtin "isinstance") (rC G isinD) := by
  refine CallR.imp call_isi ?_
  rintro vs H Q ⟨S, B, W, m, μ, σ, ds, R, t, P⟩
  unfold isinD at P
  split at P
  · rename_i d e
    split at P
    · rename_i n
      obtain ⟨v, w, rfl, r1, r2⟩ := t.two
      cases r2
      cases h : tyD μ d with
      | none => rw [h] at P; exact False.elim P
      | some ty =>
        rw [h] at P
        have P : PostE G S B W m H σ Q (sh ((isaT ty n).map .bl) μ) := P
        cases h2 : isaT ty n with
        | none => rw [h2] at P; exact False.elim P
        | some k =>
          rw [h2] at P
          obtain ⟨tx, hm⟩ := ty_at R r1 h
          rw [← hK] at tx
          exact ⟨v, .ty n, .type ty, .type n, k, rfl, .ty n, tx, isaT_ok hm h2, P.val R (.bl _)⟩
    · exact False.elim P
  · exact False.elim P

/-! ### what changes a cell -/
theorem put_lev {S : AP_} {B : Nat → Prop} {m : List Addr} {μ : Sto} {H : Hp} {b l : Nat} {d : D} (hB : ∀ x, B x → x ≤ b) (h : mayPut b l d = true) : ∀ x, B x → l < x → below x d := fun x hx hl => by
  unfold mayPut at h
  rw [Bool.or_eq_true] at h
  rcases h with h | h
  · have := of_decide_eq_true h
    have := hB x hx
    omega
  · exact below_noRef 9 d h
theorem PostE.put {S : AP_} {B : Nat → Prop} {W : L2.WX} {m : List Addr} {μ : Sto} {H : Hp} {σ : L2.St} {Q : VK} {l : Nat} {a : Addr} {v : V} {d : D} {vs : List V} {ds : List D} (R : Rep G S B m μ H) (hm : m[l]? = some a) (t : RVs G (av S m) m H vs ds)
    (hb : ∀ x, B x → l < x → belowL x ds) (r : RV G (av S m) m H v d) (P : PostE G S B W m H σ Q (.ok (d, 0) (μ.set l (.lst ds)))) : Q v (upd H a (.lst vs)) := by
  have E : Evo m H m (upd H a (.lst vs)) := Evo.put (List.mem_of_getElem? hm)
  exact P v _ m E (R.put hm ⟨vs, upd_same, t.evo E⟩ hb) (r.evo E) (.inl rfl)
def rM (G : Gb) (f : Nat → List D → List D → Sto → R (D × Nat)) : V → List V → Hp → VK → Prop := fun x vs H Q => ∃ S B W m μ σ l xs ds, Rep G S B m μ H ∧ RV G (av S m) m H x (.cell l) ∧ μ[l]? = some (.lst xs) ∧ RVs G (av S m) m H vs ds ∧ PostE G S B W m H σ Q (f l xs ds μ)
theorem MtR.imp {id : String} {r r' : V → List V → Hp → VK → Prop} (h : MtR X id r) (k : ∀ x vs H Q, r' x vs H Q → r x vs H Q) : MtR X id r' := fun pins s σ H x xs v us Q I rx rs q => h pins s σ H x xs v us Q I rx rs (k _ _ _ _ q)
theorem lev_items {S : AP_} {B : Nat → Prop} {m : List Addr} {μ : Sto} {H : Hp} {l : Nat} {xs : List D} (R : Rep G S B m μ H) (h : μ[l]? = some (.lst xs)) : ∀ x, B x → l < x → belowL x xs := fun x hx hl => (R.lev x hx).2 l _ hl h
theorem mtAppend {b : Nat} : MtR X "list.append" (fun x vs H Q => ∃ (S : AP_) (B : Nat → Prop) (W : L2.WX) (m : List Addr) (μ : Sto) (σ : L2.St) (l : Nat) (xs ds : List D), (∀ x, B x → x ≤ b) ∧ Rep G S B m μ H ∧ RV G (av S m) m H x (.cell l) ∧ μ[l]? = some (.lst xs) ∧ RVs G (av S m) m H vs ds ∧ PostE G S B W m H σ Q (appendD b l xs ds μ)) := by
  refine MtR.imp mt_append ?_
  rintro x vs H Q ⟨S, B, W, m, μ, σ, l, xs, ds, hB, R, r, hl, t, P⟩
  unfold appendD at P
  split at P
  · rename_i d
    obtain ⟨v, rfl, rv⟩ := t.one
    obtain ⟨⟨hz, hp⟩, P⟩ := ifR P id
    cases r with
    | cell hm =>
      obtain ⟨ws, e, tt⟩ := R.at_ l _ _ hm hl
      refine ⟨_, ws, v, rfl, rfl, e, by rw [tt.length]; exact hz, PostE.put R hm (tt.append (.cons rv .nil)) (fun x hx hlx => ?_) .non P⟩
      rw [belowL_iff]
      intro y hy
      rcases List.mem_append.mp hy with hy | hy
      · exact belowL_iff.mp (lev_items R hl x hx hlx) y hy
      · rw [List.mem_singleton.mp hy]; exact put_lev (S := S) (m := m) (μ := μ) (H := H) hB hp x hx hlx
  · exact False.elim P
theorem mtPop {b : Nat} : MtR X "list.pop" (fun x vs H Q => ∃ (S : AP_) (B : Nat → Prop) (W : L2.WX) (m : List Addr) (μ : Sto) (σ : L2.St) (l : Nat) (xs ds : List D), (∀ x, B x → x ≤ b) ∧ Rep G S B m μ H ∧ RV G (av S m) m H x (.cell l) ∧ μ[l]? = some (.lst xs) ∧ RVs G (av S m) m H vs ds ∧ PostE G S B W m H σ Q (popD b l xs ds μ)) := by
  refine MtR.imp (MtR.or mt_pop mt_popAt) ?_
  rintro x vs H Q ⟨S, B, W, m, μ, σ, l, xs, ds, hB, R, r, hl, t, P⟩
  unfold popD at P
  cases r with
  | cell hm =>
    obtain ⟨ws, e, tt⟩ := R.at_ l _ _ hm hl
    split at P
    · cases t
      split at P
      · rename_i y hy
        obtain ⟨w, e1, r1⟩ := tt.get hy
        refine .inl ⟨_, ws, w, rfl, rfl, e, by rw [tt.length]; exact e1, PostE.put R hm tt.dropLast (fun x hx hlx => ?_) r1 P⟩
        exact belowL_iff.mpr fun y hy => belowL_iff.mp (lev_items R hl x hx hlx) y (List.dropLast_subset _ hy)
      · exact False.elim P
    · obtain ⟨v, rfl, rv⟩ := t.one
      split at P
      · split at P
        · rename_i i k hk
          split at P
          · rename_i y hy
            obtain ⟨⟨h1, h2⟩, P⟩ := ifR P id
            obtain ⟨w, e1, r1⟩ := tt.get hy
            cases rv
            refine .inr ⟨_, ws, _, k, w, rfl, rfl, e, h1, h2, by rw [tt.length]; exact (ixN_seq hk).1, e1, PostE.put R hm (tt.eraseIdx k) (fun x hx hlx => ?_) r1 P⟩
            exact belowL_iff.mpr fun y hy => belowL_iff.mp (lev_items R hl x hx hlx) y (List.mem_of_mem_eraseIdx hy)
          · exact False.elim P
        · exact False.elim P
      · exact False.elim P
    · exact False.elim P
end
end VM

set_option Elab.async false
set_option maxRecDepth 100000
set_option autoImplicit false
set_option linter.unusedVariables false
/-! str of things -/
namespace VM
open PySem PySem.Spec PyProof.Rows L2
section
variable {X : Cx} {G : Gb}
theorem callStr : CallR X (.type "str") (rC G strD) := by
  intro pins s σ H xs us Q I rs h
  obtain ⟨S, B, W, m, μ, σ', ds, R, t, P⟩ := h
  unfold strD at P
  split at P
  · rename_i d
    obtain ⟨v, rfl, r⟩ := t.one
    obtain ⟨u, rfl, r1⟩ := vals1 rs
    cases r with
    | int i =>
      obtain ⟨tk, rfl⟩ := r1
      obtain ⟨hz, P⟩ := ifR P id
      exact PySem.P.str_of_int hz ⟨.str _, H, I.tok _, ⟨_, rfl⟩, P.val R (.str _)⟩
    | str x =>
      obtain ⟨tk, rfl⟩ := r1
      exact PySem.P.str_of_str ⟨.str _, H, I, ⟨_, rfl⟩, P.val R (.str _)⟩
    | bl k =>
      cases r1
      exact PySem.P.str_of_bool ⟨.str _, H, I.tok _, ⟨_, rfl⟩, P.val R (.str _)⟩
    | non =>
      cases r1
      exact PySem.P.str_of_none ⟨.str _, H, I.tok _, ⟨_, rfl⟩, P.val R (.str _)⟩
    | _ => exact False.elim P
  · exact False.elim P
theorem mapM_all {α β : Type} {f : α → Option β} {P : β → Prop} (h : ∀ x y, f x = some y → P y) : ∀ {xs : List α} {ys : List β}, xs.mapM f = some ys → ∀ y ∈ ys, P y
  | [], ys, e => by rw [mapM_nil e]; intro y hy; cases hy
  | x :: xs, ys, e => by
    obtain ⟨y, zs, h1, h2, rfl⟩ := mapM_cons e
    intro z hz
    rcases List.mem_cons.mp hz with rfl | hz
    · exact h _ _ h1
    · exact mapM_all h h2 z hz
theorem depthAll_le {n : Nat} : ∀ {xs : List PyData}, (∀ x ∈ xs, x.depth ≤ n) → PyData.depthAll xs ≤ n
  | [], _ => by simp [PyData.depthAll]
  | x :: xs, h => by
    unfold PyData.depthAll
    exact Nat.max_le.mpr ⟨h x List.mem_cons_self, depthAll_le fun y hy => h y (List.mem_cons_of_mem _ hy)⟩
theorem py_depth {μ : Sto} : ∀ (n : Nat) (d : D) (p : PyData), toPy μ n d = some p → p.depth ≤ n ∧ p.hasDict = false
  | 0, _, _, h => by cases h
  | n + 1, d, p, h => by
    have ih := py_depth (μ := μ) n
    have lists : ∀ {xs : List D} {ys : List PyData}, xs.mapM (toPy μ n) = some ys → (PyData.depthAll ys ≤ n) ∧ PyData.hasDictAll ys = false := by
      intro xs ys e
      have a := mapM_all (P := fun p => p.depth ≤ n ∧ p.hasDict = false) ih e
      refine ⟨depthAll_le fun y hy => (a y hy).1, ?_⟩
      clear e
      induction ys with
      | nil => simp [PyData.hasDictAll]
      | cons y ys ih2 =>
        unfold PyData.hasDictAll
        rw [(a y List.mem_cons_self).2, ih2 fun z hz => a z (List.mem_cons_of_mem _ hz)]; rfl
    have zints : ∀ ns : List Int, PyData.depthAll (ns.map PyData.int) ≤ n ∧ PyData.hasDictAll (ns.map PyData.int) = false := by
      intro ns
      induction ns with
      | nil => simp [PyData.depthAll, PyData.hasDictAll]
      | cons y ys ih2 => simp [PyData.depthAll, PyData.hasDictAll, PyData.depth, PyData.hasDict, ih2.2]; exact ih2.1
    cases d with
    | non => cases h; simp [PyData.depth, PyData.hasDict]
    | bl b => cases h; simp [PyData.depth, PyData.hasDict]
    | int i => cases h; simp [PyData.depth, PyData.hasDict]
    | str i => cases h; simp [PyData.depth, PyData.hasDict]
    | lst xs =>
      obtain ⟨ys, h1, rfl⟩ := map_some h
      have := lists h1
      simp [PyData.depth, PyData.hasDict, this]
    | tup xs =>
      obtain ⟨ys, h1, rfl⟩ := map_some h
      have := lists h1
      simp [PyData.depth, PyData.hasDict, this]
    | cell l =>
      have h : (match μ[l]? with | some (C.lst xs) => (xs.mapM (toPy μ n)).map PyData.list | _ => none) = some p := h
      split at h
      · obtain ⟨ys, h1, rfl⟩ := map_some h
        have := lists h1
        simp [PyData.depth, PyData.hasDict, this]
      · cases h
    | scr ns =>
      cases h
      have := zints ns
      simp [PyData.depth, PyData.hasDict, this]
    | ty n => cases h
    | fn x => cases h
theorem callStrA (hK : X.K = G.K) (hg : X.A.guards = some []) (hu : X.A.units + 64 < cLine) : CallR X (.type "str") (rC G strA) := by
  intro pins s σ H xs us Q I rs h
  obtain ⟨S, B, W, m, μ, σ', ds, R, t, P⟩ := h
  unfold strA at P
  split at P
  · rename_i d
    have main : ∀ p : PyData, toPy μ 9 d = some p → (∃ xs, p = .list xs ∨ p = .tuple xs) → PostE G S B W m H σ' Q (if p.showable = true ∧ p.shown.length ≤ sizeLine then .ok (.str p.shown, 0) μ else .bad) → wpAny (model X.prog X.w) X.A (call (.type "str") us) (EP X pins σ Q) X.xe s := by
      intro p hp hsh P
      obtain ⟨⟨h1, h2⟩, P⟩ := ifR P id
      obtain ⟨v, rfl, r⟩ := t.one
      obtain ⟨u, rfl, r1⟩ := vals1 rs
      have D := dp_of R 9 d v p hp r
      rw [← hK] at D
      obtain ⟨as, rd⟩ := Dp.reads I p v u D r1
      obtain ⟨hd, hnd⟩ := py_depth 9 d p hp
      have isr : ∃ a, u = .ref a := by
        obtain ⟨ys, e | e⟩ := hsh
        · subst e; cases rd; exact ⟨_, rfl⟩
        · subst e; cases rd; exact ⟨_, rfl⟩
      obtain ⟨a, rfl⟩ := isr
      refine str_of_reads rd h1 (PyData.noDict_hsm hnd) hg (by omega) (fun _ _ e => e) (fun h' u tk k => ?_) h2
      exact ⟨.str _, H, (I.kept k), ⟨_, rfl⟩, P.val R (.str _)⟩
    split at P
    · rename_i xs hp
      exact main _ hp ⟨_, .inl rfl⟩ P
    · rename_i xs hp
      exact main _ hp ⟨_, .inr rfl⟩ P
    · exact callStr pins s σ H _ us Q I rs ⟨S, B, W, m, μ, σ', [d], R, t, P⟩
  · exact False.elim P
end
end VM

set_option Elab.async false
set_option maxRecDepth 100000
set_option autoImplicit false
set_option linter.unusedVariables false
namespace VM
open PySem PySem.Spec PyProof.Rows L2

structure EnvR (G : Gb) (A : AP_) (m : List Addr) (H : Hp) (σ : L2.St) (ρ : Ev) : Prop where
  len : σ.length = ρ.length
  at_ : ∀ (i : Nat) (d : D), ρ[i]? = some (some d) → ∃ v, σ[i]? = some (some v) ∧ RV G A m H v d
section
variable {G : Gb} {S : AP_} {B : Nat → Prop} {W : L2.WX} {m m' : List Addr} {μ : Sto} {H H' : Hp} {σ : L2.St} {ρ : Ev}
theorem EnvR.imp {A A' : AP_} (E : EnvR G A m H σ ρ) (h : ∀ v d, RV G A m H v d → RV G A' m' H' v d) : EnvR G A' m' H' σ ρ := ⟨E.len, fun i d e => let ⟨v, e1, r⟩ := E.at_ i d e; ⟨v, e1, h _ _ r⟩⟩
theorem EnvR.evo (E : EnvR G (av S m) m H σ ρ) (e : Evo m H m' H') : EnvR G (av S m') m' H' σ ρ := E.imp fun _ _ r => r.evo e
theorem EnvR.set {A : AP_} (E : EnvR G A m H σ ρ) {v : V} {d : D} (i : Nat) (r : RV G A m H v d) : EnvR G A m H (σ.set i (some v)) (ρ.set i (some d)) := by
  refine ⟨by simp [E.len], fun k e h => ?_⟩
  by_cases hk : i = k
  · subst hk
    by_cases hl : i < ρ.length
    · rw [List.getElem?_set_self hl] at h
      cases h
      exact ⟨v, List.getElem?_set_self (by rw [E.len]; exact hl), r⟩
    · rw [List.getElem?_eq_none (by simpa using hl)] at h; cases h
  · rw [List.getElem?_set_ne hk] at h
    rw [List.getElem?_set_ne hk]
    exact E.at_ k e h
theorem EnvR.unset {A : AP_} (E : EnvR G A m H σ ρ) (i : Nat) : EnvR G A m H (σ.set i none) (ρ.set i none) := by
  refine ⟨by simp [E.len], fun k e h => ?_⟩
  by_cases hk : i = k
  · subst hk
    by_cases hl : i < ρ.length
    · rw [List.getElem?_set_self hl] at h; cases h
    · rw [List.getElem?_eq_none (by simpa using hl)] at h; cases h
  · rw [List.getElem?_set_ne hk] at h
    rw [List.getElem?_set_ne hk]
    exact E.at_ k e h
theorem EnvR.wipe {A : AP_} (E : EnvR G A m H σ ρ) : ∀ vs : List Nat, EnvR G A m H (wipe σ vs) (wipeD ρ vs)
  | [] => E
  | v :: vs => (E.wipe vs).unset v
theorem wipe_set_in {x : Option V} : ∀ {vs : List Nat} {σ : L2.St} {i : Nat}, i ∈ vs → wipe (σ.set i x) vs = wipe σ vs
  | [], _, _, h => by simp at h
  | v :: vs, σ, i, h => by
    unfold L2.wipe
    by_cases hi : i ∈ vs
    · rw [wipe_set_in hi]
    · have e : i = v := by simpa [hi] using h
      subst e
      have comm : ∀ (vs : List Nat) (σ : L2.St), (L2.wipe (σ.set i x) vs).set i none = (L2.wipe σ vs).set i none := by
        intro vs
        induction vs with
        | nil => intro σ; unfold L2.wipe; rw [List.set_set]
        | cons w ws ih =>
          intro σ
          unfold L2.wipe
          by_cases hw : w = i
          · subst hw; rw [List.set_set, List.set_set, ih]
          · rw [List.set_comm _ _ hw, ih, List.set_comm _ _ hw]
      exact comm vs σ

/-! ### what is walked -/
inductive LR (G : Gb) (S : AP_) (m : List Addr) (H : Hp) : Src → Addr → Prop
  | data {a : Addr} {vs : List V} {xs : List D} : Rd H a (.lst vs) → ¬ av S m a → RVs G (av S m) m H vs xs → LR G S m H (.data xs) a
  | cell {l : Nat} {a : Addr} : m[l]? = some a → LR G S m H (.cell l) a
  | scr {a : Addr} {ns : List Int} : (Rd H a (.lst (ns.map .int)) ∧ ¬ av S m a ∨ KL G.K a (ns.map .int)) → LR G S m H (.data (ns.map .int)) a
inductive SR (K : PySem.W.Frag) (G : Gb) (S : AP_) (m : List Addr) (H : Hp) : Src → L2.It → Prop
  | lst {s : Src} {a : Addr} : LR G S m H s a → SR K G S m H s (Itl K a)
  | tup {a : Addr} {vs : List V} {xs : List D} : H a = some (.tup vs) → ¬ av S m a → RVs G (av S m) m H vs xs → SR K G S m H (.data xs) (Itt K a)
  | rng (lo : Int) (n : Nat) : SR K G S m H (.data (rangeD lo n)) (Itr lo n)
  | zip {s t : Src} {a b : Addr} : LR G S m H s a → LR G S m H t b → SR K G S m H (.zip s t) (Itz K a b)
  | enum {s : Src} {a : Addr} : LR G S m H s a → SR K G S m H (.enum s) (Ite K a)
theorem LR.imp {S' : AP_} {s : Src} {a : Addr} (r : LR G S m H s a) (hm : ∀ (l : Nat) (a : Addr), m[l]? = some a → m'[l]? = some a) (hk : ∀ a o, H a = some o → ¬ av S m a → H' a = some o ∧ ¬ av S' m' a) : LR G S' m' H' s a := by
  cases r with
  | data h n t =>
    rcases h with h | ⟨o, h⟩
    · exact .data (.inl (hk _ _ h n).1) (hk _ _ h n).2 (t.imp hm hk)
    · exact .data (.inr ⟨o, (hk _ _ h n).1⟩) (hk _ _ h n).2 (t.imp hm hk)
  | cell h => exact .cell (hm _ _ h)
  | scr h =>
    rcases h with ⟨r | ⟨o, r⟩, n⟩ | h
    · exact .scr (.inl ⟨.inl (hk _ _ r n).1, (hk _ _ r n).2⟩)
    · exact .scr (.inl ⟨.inr ⟨o, (hk _ _ r n).1⟩, (hk _ _ r n).2⟩)
    · exact .scr (.inr h)
theorem SR.imp {K : PySem.W.Frag} {S' : AP_} {s : Src} {J : L2.It} (r : SR K G S m H s J) (hm : ∀ (l : Nat) (a : Addr), m[l]? = some a → m'[l]? = some a) (hk : ∀ a o, H a = some o → ¬ av S m a → H' a = some o ∧ ¬ av S' m' a) : SR K G S' m' H' s J := by
  cases r with
  | lst r => exact .lst (r.imp hm hk)
  | tup h n t => exact .tup (hk _ _ h n).1 (hk _ _ h n).2 (t.imp hm hk)
  | rng lo n => exact .rng lo n
  | zip r q => exact .zip (r.imp hm hk) (q.imp hm hk)
  | enum r => exact .enum (r.imp hm hk)
theorem evo_hk (e : Evo m H m' H') : ∀ a o, H a = some o → ¬ av S m a → H' a = some o ∧ ¬ av S m' a := fun a o h n =>
  ⟨(e.keep a o h fun z => n (.inr z)).1, fun z => z.elim (fun z => n (.inl z)) (e.keep a o h fun z => n (.inr z)).2⟩
theorem LR.at_ {s : Src} {a : Addr} (R : Rep G S B m μ H) (r : LR G S m H s a) (i : Nat) : s.at μ i = .bad ∨ ∃ vs, SqL G.K H a vs ∧ ((vs.length ≤ i ∧ s.at μ i = .done) ∨ ∃ v d, s.at μ i = .item d ∧ vs[i]? = some v ∧ RV G (av S m) m H v d) := by
  have fin : ∀ {vs : List V} {xs : List D}, RVs G (av S m) m H vs xs → (vs.length ≤ i ∧ nxO xs[i]? = .done) ∨ ∃ v d, nxO xs[i]? = .item d ∧ vs[i]? = some v ∧ RV G (av S m) m H v d := by
    intro vs xs t
    cases e : xs[i]? with
    | some d => obtain ⟨v, e1, r1⟩ := t.get e; exact .inr ⟨v, d, rfl, e1, r1⟩
    | none => exact .inl ⟨by rw [t.length]; exact List.getElem?_eq_none_iff.mp e, rfl⟩
  cases r with
  | @data a vs xs h n t => exact .inr ⟨vs, .inl h, fin t⟩
  | @scr a ns h => exact .inr ⟨ns.map .int, h.elim (fun z => .inl z.1) .inr, fin (.ofInts ns)⟩
  | @cell l a h =>
    have hl : l < μ.length := by rw [← R.len]; exact (List.getElem?_eq_some_iff.mp h).1
    have hc := R.at_ l a _ h (List.getElem?_eq_getElem hl)
    have e1 : μ[l]? = some μ[l] := List.getElem?_eq_getElem hl
    cases q : μ[l] with
    | lst xs =>
      rw [q] at hc e1
      obtain ⟨vs, e, t⟩ := hc
      refine .inr ⟨vs, .of e, ?_⟩
      have e2 : (Src.cell l).at μ i = nxO xs[i]? := by unfold Src.at; rw [e1]
      rw [e2]
      exact fin t
    | dct kvs => left; unfold Src.at; rw [e1, q]
    | ins c fs => left; unfold Src.at; rw [e1, q]
/-- one turn: it stops, or yields -/
theorem SR.turn {s : Src} {J : L2.It} (R : Rep G S B m μ H) (r : SR G.K G S m H s J) (i : Nat) :
    s.at μ i = .bad ∨ (s.at μ i = .done ∧ J.stop i H) ∨ ∃ d, s.at μ i = .item d ∧ J.go i H ∧ ∀ x H', J.yld i H x H' → Same H H' ∧ RV G (av S m) m H' x d := by
  cases r with
  | lst r =>
    rcases r.at_ R i with h | ⟨vs, h, ⟨h1, h2⟩ | ⟨v, d, h1, h2, h3⟩⟩
    · exact .inl h
    · exact .inr (.inl ⟨h2, vs, h, h1⟩)
    · refine .inr (.inr ⟨d, h1, ⟨vs, v, h, h2⟩, fun x H' y => ?_⟩)
      obtain ⟨e, y⟩ := y
      subst e
      have := y vs h
      rw [h2] at this
      cases this
      exact ⟨Same.refl _, h3⟩
  | @tup a vs xs h n t =>
    show nxO xs[i]? = _ ∨ _
    cases e : xs[i]? with
    | none => exact .inr (.inl ⟨by show nxO xs[i]? = _; rw [e]; rfl, vs, .of h, by rw [t.length]; exact List.getElem?_eq_none_iff.mp e⟩)
    | some d =>
      obtain ⟨v, e1, r1⟩ := t.get e
      refine .inr (.inr ⟨d, by show nxO xs[i]? = _; rw [e]; rfl, ⟨vs, v, .of h, e1⟩, fun x H' y => ?_⟩)
      obtain ⟨e', y⟩ := y
      subst e'
      have := y vs (.of h)
      rw [e1] at this
      cases this
      exact ⟨Same.refl _, r1⟩
  | rng lo n =>
    have e : (Src.data (rangeD lo n)).at μ i = nxO (rangeD lo n)[i]? := rfl
    rw [e]
    by_cases hi : i < n
    · have e1 : (rangeD lo n)[i]? = some (.int (lo + (i : Nat))) := by simp [rangeD, hi]
      rw [e1]
      refine .inr (.inr ⟨_, rfl, hi, fun x H' y => ?_⟩)
      obtain ⟨e', y⟩ := y
      subst e' y
      exact ⟨Same.refl _, .int _⟩
    · have e1 : (rangeD lo n)[i]? = none := by simp [rangeD]; omega
      rw [e1]
      exact .inr (.inl ⟨rfl, Nat.le_of_not_lt hi⟩)
  | @zip s t a b r q =>
    have e : (Src.zip s t).at μ i = nxZ (s.at μ i) (t.at μ i) := rfl
    rw [e]
    rcases r.at_ R i with h | ⟨vs, h, h'⟩
    · rw [h]; left; cases t.at μ i <;> rfl
    · rcases q.at_ R i with g | ⟨ws, g, g'⟩
      · rw [g]; left; cases s.at μ i <;> rfl
      · rcases h' with ⟨h1, h2⟩ | ⟨v, d, h1, h2, h3⟩
        · refine .inr (.inl ⟨?_, vs, ws, h, g, .inl h1⟩)
          rw [h2]
          rcases g' with ⟨_, g2⟩ | ⟨_, _, g2, _⟩ <;> rw [g2] <;> rfl
        · rcases g' with ⟨g1, g2⟩ | ⟨w, e, g1, g2, g3⟩
          · exact .inr (.inl ⟨by rw [h1, g2]; rfl, vs, ws, h, g, .inr g1⟩)
          · refine .inr (.inr ⟨_, by rw [h1, g1]; rfl, ⟨vs, ws, v, w, h, g, h2, g2⟩, fun x H' y => ?_⟩)
            obtain ⟨T, x', y', rfl, hT', rfl, y1, y2⟩ := y
            have e1 := y1 vs h
            have e2 := y2 ws g
            rw [h2] at e1
            rw [g2] at e2
            cases e1
            cases e2
            have k := same_new (o := HO.tup [v, w]) hT'
            exact ⟨k, .tup upd_same (av_new R hT') (.cons (h3.evo (Evo.grow k)) (.cons (g3.evo (Evo.grow k)) .nil))⟩
  | @enum s a r =>
    have e : (Src.enum s).at μ i = nxE i (s.at μ i) := rfl
    rw [e]
    rcases r.at_ R i with h | ⟨vs, h, ⟨h1, h2⟩ | ⟨v, d, h1, h2, h3⟩⟩
    · rw [h]; exact .inl rfl
    · exact .inr (.inl ⟨by rw [h2]; rfl, vs, h, h1⟩)
    · refine .inr (.inr ⟨_, by rw [h1]; rfl, ⟨vs, v, h, h2⟩, fun x H' y => ?_⟩)
      obtain ⟨T, x', rfl, hT', rfl, y1⟩ := y
      have e1 := y1 vs h
      rw [h2] at e1
      cases e1
      have k := same_new (o := HO.tup [.int (i : Nat), v]) hT'
      exact ⟨k, .tup upd_same (av_new R hT') (.cons (.int _) (.cons (h3.evo (Evo.grow k)) .nil))⟩

/-! ### targets that are names -/
mutual
def tgG (K : PySem.W.Frag) : Tg → L2.TG
  | .name i => gName i
  | .tup ts => gTup K (tgsLen ts) (tgsG K ts)
  | _ => fun _ _ _ _ => False
def tgsG (K : PySem.W.Frag) : Tgs → L2.TGs
  | .nil => gNil
  | .cons t ts => gCons (tgG K t) (tgsG K ts)
end
theorem bind_at {K : PySem.W.Frag} {own : List Nat} {Q : L2.St → Hp → Prop} : ∀ (n : Nat) (t : Tg) (d : D) (v : V) (σ : L2.St) (ρ ρ1 : Ev), bindL n t d ρ = some ρ1 → tgIn own t = true → RV G (av S m) m H v d → EnvR G (av S m) m H σ ρ →
    (∀ σ1, EnvR G (av S m) m H σ1 ρ1 → wipe σ1 own = wipe σ own → Q σ1 H) → tgG K t v σ H Q
  | 0, _, _, _, _, _, _, h, _, _, _, _ => by cases h
  | n + 1, .name i, d, v, σ, ρ, ρ1, h, ho, r, E, k => by
    cases h
    exact k _ (E.set i r) (wipe_set_in (by simpa [tgIn] using ho))
  | n + 1, .tup (.cons s (.cons t .nil)), d, v, σ, ρ, ρ1, h, ho, r, E, k => by
    cases r with
    | @tup a vs ds hh nn tt =>
      match ds, tt, h with
      | [], _, h => cases h
      | [_], _, h => cases h
      | _ :: _ :: _ :: _, _, h => cases h
      | [x, y], tt, h =>
        have h : (bindL n s x ρ).bind (bindL n t y) = some ρ1 := h
        cases e : bindL n s x ρ with
        | none => rw [e] at h; cases h
        | some ρ2 =>
          rw [e] at h
          have ho : (tgIn own s && (tgIn own t && true)) = true := ho
          simp only [Bool.and_true, Bool.and_eq_true] at ho
          obtain ⟨v1, v2, rfl, r1, r2⟩ := tt.two
          refine ⟨_, _, rfl, .of hh, rfl, v1, [v2], rfl, ?_⟩
          refine bind_at n s x v1 σ ρ ρ2 e ho.1 r1 E fun σ1 E1 w1 => ⟨v2, [], rfl, ?_⟩
          exact bind_at n t y v2 σ1 ρ2 ρ1 h ho.2 r2 E1 fun σ2 E2 w2 => ⟨rfl, k σ2 E2 (w2.trans w1)⟩
    | _ => cases h
  | n + 1, .bad, _, _, _, _, _, h, _, _, _, _ => by cases h
  | n + 1, .sub _ _, _, _, _, _, _, h, _, _, _, _ => by cases h
  | n + 1, .fld _ _, _, _, _, _, _, h, _, _, _, _ => by cases h
  | n + 1, .tup .nil, _, _, _, _, _, h, _, _, _, _ => by cases h
  | n + 1, .tup (.cons _ .nil), _, _, _, _, _, h, _, _, _, _ => by cases h
  | n + 1, .tup (.cons _ (.cons _ (.cons _ _))), _, _, _, _, _, h, _, _, _, _ => by cases h
end
end VM

set_option Elab.async false
set_option maxRecDepth 100000
set_option autoImplicit false
set_option linter.unusedVariables false
/-! expressions -/
namespace VM
open PySem PySem.Spec PyProof.Rows L2

/-- what a def promises: its run on the machine -/
def spF (G : Gb) (n : Nat) (g : Nat → List D → Sto → R (D × Nat)) : Sp := fun vs H Q E => vs.length = n ∧ ∃ S B b m μ ds, (∀ x, B x → x ≤ b) ∧ Rep G S B m μ H ∧ RVs G (av S m) m H vs ds ∧ PostE G S B (fun c d _ H => E c d H) m H [] Q (g b ds μ)
structure Good (X : Cx) (G : Gb) (Tx : Tr) (T : Tb) : Prop where
  calm : X.calm = true
  eqK : X.K = G.K
  nd : X.N.Nodup
  eqN : X.N = Tx.N
  hu : X.A.units + 64 < cLine
  kind : X.env.scope.kind = .function
  bi : ∀ x ∈ biNames ++ (["range", "zip", "enumerate", "str"] : List Str), X.mg x = none
  gd : Tx.cs = true → X.A.guards = some []
  gl : ∀ x d, T.glob x = some d → ∃ v u, (X.mg x = some u ∨ (X.mg x = none ∧ bootBuiltins x = some u ∧ x ≠ "__name__")) ∧ RelV v u ∧ ∀ A m H, RV G A m H v d
  call : ∀ f, Tx.defs.contains f = true → ∃ fa fd ps k, X.mg f = some (.ref fa) ∧ PySem.W.keepIn X.K (.ref fa) = true ∧ FnOk X.prog X.w X.K X.mg X.base (L2.CX X.prog X.w) k fa fd ps (spF G ps.length (T.call f)) ∧ Room k X.A ∧ Binds X.K fd ps [] ∧
    ∀ b ds μ, T.call f b ds μ ≠ .bad → ds.length = ps.length

def tE (G : Gb) (T : Tb) (b : Nat) (W : L2.WX) (e : E) : TE := fun σ H Q => ∃ S B m μ ρ, (∀ x, B x → x ≤ b) ∧ Rep G S B m μ H ∧ EnvR G (av S m) m H σ ρ ∧ PostE G S B W m H σ Q (evE T b e ρ μ)
def PostA (G : Gb) (S : AP_) (B : Nat → Prop) (W : L2.WX) (m : List Addr) (H : Hp) (σ : L2.St) (Q : List V → Hp → Prop) : R (List D) → Prop
  | .ok ds μ' => ∀ vs H' m', Evo m H m' H' → Rep G S B m' μ' H' → RVs G (av S m') m' H' vs ds → Q vs H'
  | .err x μ' => ∀ cls dd H' m', Evo m H m' H' → Rep G S B m' μ' H' → ExcR G x cls dd H' → W cls dd σ H'
  | .bad => False
def tA (G : Gb) (T : Tb) (b : Nat) (W : L2.WX) (es : Es) : L2.TA := fun σ H Q => ∃ S B m μ ρ, (∀ x, B x → x ≤ b) ∧ Rep G S B m μ H ∧ EnvR G (av S m) m H σ ρ ∧ PostA G S B W m H σ Q (evEs T b es ρ μ)
def PostT (G : Gb) (S : AP_) (B : Nat → Prop) (W : L2.WX) (m : List Addr) (H : Hp) (σ : L2.St) (Q : Bool → Hp → Prop) : R Bool → Prop
  | .ok k μ' => ∀ H' m', Evo m H m' H' → Rep G S B m' μ' H' → Q k H'
  | .err x μ' => ∀ cls dd H' m', Evo m H m' H' → Rep G S B m' μ' H' → ExcR G x cls dd H' → W cls dd σ H'
  | .bad => False
def tT (G : Gb) (T : Tb) (b : Nat) (W : L2.WX) (e : E) : L2.TT := fun σ H Q => ∃ S B m μ ρ, (∀ x, B x → x ≤ b) ∧ Rep G S B m μ H ∧ EnvR G (av S m) m H σ ρ ∧ PostT G S B W m H σ Q (tst (evE T b e ρ μ))
def PostI (K : PySem.W.Frag) (G : Gb) (S : AP_) (B : Nat → Prop) (W : L2.WX) (m : List Addr) (H : Hp) (σ : L2.St) (Q : L2.It → Hp → Prop) : R Src → Prop
  | .ok s μ' => ∀ J H' m', Evo m H m' H' → Rep G S B m' μ' H' → SR K G S m' H' s J → Q J H'
  | .err x μ' => ∀ cls dd H' m', Evo m H m' H' → Rep G S B m' μ' H' → ExcR G x cls dd H' → W cls dd σ H'
  | .bad => False
def tI (K : PySem.W.Frag) (G : Gb) (T : Tb) (b : Nat) (W : L2.WX) (it : It) : L2.TI := fun σ H Q => ∃ S B m μ ρ, (∀ x, B x → x ≤ b) ∧ Rep G S B m μ H ∧ EnvR G (av S m) m H σ ρ ∧ PostI K G S B W m H σ Q (evIt T b it ρ μ)

section
variable {X : Cx} {G : Gb} {Tx : Tr} {T : Tb} {b : Nat} {W : L2.WX}
theorem _root_.L2.PE.mono {e : Expr} {t t' : TE} (h : PE X e t) (k : ∀ σ H Q, t' σ H Q → t σ H Q) : PE X e t' := ⟨fun pins s σ H Q I q => h.run pins s σ H Q I (k _ _ _ q)⟩
theorem _root_.L2.PT.mono {e : Expr} {t t' : L2.TT} (h : PT X e t) (k : ∀ σ H Q, t' σ H Q → t σ H Q) : PT X e t' := ⟨fun pins s σ H Q I q => h.run pins s σ H Q I (k _ _ _ q)⟩
theorem _root_.L2.PA.mono {e : List Expr} {t t' : L2.TA} (h : PA X e t) (k : ∀ σ H Q, t' σ H Q → t σ H Q) : PA X e t' := ⟨fun pos pins s σ H Q I q => h.run pos pins s σ H Q I (k _ _ _ q)⟩
theorem _root_.L2.PI.mono {tg e : Expr} {t t' : L2.TI} (h : PI X tg e t) (k : ∀ σ H Q, t' σ H Q → t σ H Q) : PI X tg e t' := ⟨fun pins s σ H Q I q => h.run pins s σ H Q I (k _ _ _ q)⟩
theorem pe_bad {e : Expr} : PE X e (tE G T b W .bad) := ⟨fun _ _ _ _ _ _ ⟨_, _, _, _, _, _, _, _, P⟩ => False.elim P⟩
theorem pt_bad {e : Expr} : PT X e (tT G T b W .bad) := ⟨fun _ _ _ _ _ _ ⟨_, _, _, _, _, _, _, _, P⟩ => False.elim P⟩

section
variable {S : AP_} {B : Nat → Prop} {m m1 : List Addr} {μ : Sto} {H H1 : Hp} {σ : L2.St}
theorem bindA {r : R (D × Nat)} {f : D × Nat → Sto → R (List D)} {Q : List V → Hp → Prop} {Q1 : V → Hp → Prop} (h : PostA G S B W m H σ Q (r.bind f))
    (k : ∀ (d : D × Nat) (μ1 : Sto) (v : V) (H1 : Hp) (m1 : List Addr), r = .ok d μ1 → Evo m H m1 H1 → Rep G S B m1 μ1 H1 → RV G (av S m1) m1 H1 v d.1 → PostA G S B W m1 H1 σ Q (f d μ1) → Q1 v H1) : PostE G S B W m H σ Q1 r := by
  cases r with
  | ok d μ1 =>
    intro v H1 m1 e R r _
    refine k d μ1 v H1 m1 rfl e R r ?_
    have h : PostA G S B W m H σ Q (f d μ1) := h
    cases q : f d μ1 with
    | ok ds μ2 => rw [q] at h; exact fun vs H' m' e1 R r => h vs H' m' (e.trans e1) R r
    | err x μ2 => rw [q] at h; exact fun c dd H' m' e1 R r => h c dd H' m' (e.trans e1) R r
    | bad => rw [q] at h; exact h
  | err x μ' => exact h
  | bad => exact h
theorem bindAE {r : R (List D)} {f : List D → Sto → R (D × Nat)} {Q : VK} {Q1 : List V → Hp → Prop} (h : PostE G S B W m H σ Q (r.bind f))
    (k : ∀ (ds : List D) (μ1 : Sto) (vs : List V) (H1 : Hp) (m1 : List Addr), r = .ok ds μ1 → Evo m H m1 H1 → Rep G S B m1 μ1 H1 → RVs G (av S m1) m1 H1 vs ds → PostE G S B W m1 H1 σ Q (f ds μ1) → Q1 vs H1) : PostA G S B W m H σ Q1 r := by
  cases r with
  | ok d μ1 => exact fun v H1 m1 e R r => k d μ1 v H1 m1 rfl e R r (PostE.shift e h)
  | err x μ' => exact h
  | bad => exact h
theorem bindAA {r : R (List D)} {f : List D → Sto → R (List D)} {Q Q1 : List V → Hp → Prop} (h : PostA G S B W m H σ Q (r.bind f))
    (k : ∀ (ds : List D) (μ1 : Sto) (vs : List V) (H1 : Hp) (m1 : List Addr), r = .ok ds μ1 → Evo m H m1 H1 → Rep G S B m1 μ1 H1 → RVs G (av S m1) m1 H1 vs ds → PostA G S B W m1 H1 σ Q (f ds μ1) → Q1 vs H1) : PostA G S B W m H σ Q1 r := by
  cases r with
  | ok d μ1 =>
    intro v H1 m1 e R r
    refine k d μ1 v H1 m1 rfl e R r ?_
    have h : PostA G S B W m H σ Q (f d μ1) := h
    cases q : f d μ1 with
    | ok ds μ2 => rw [q] at h; exact fun vs H' m' e1 R r => h vs H' m' (e.trans e1) R r
    | err x μ2 => rw [q] at h; exact fun c dd H' m' e1 R r => h c dd H' m' (e.trans e1) R r
    | bad => rw [q] at h; exact h
  | err x μ' => exact h
  | bad => exact h
theorem PostT.shift {r : R Bool} {Q : Bool → Hp → Prop} (e : Evo m H m1 H1) (h : PostT G S B W m H σ Q r) : PostT G S B W m1 H1 σ Q r := by
  cases r with
  | ok k μ' => exact fun H' m' e1 R => h H' m' (e.trans e1) R
  | err x μ' => exact fun c dd H' m' e1 R r => h c dd H' m' (e.trans e1) R r
  | bad => exact h
theorem bindT {r : R (D × Nat)} {f : D × Nat → Sto → R Bool} {Q : Bool → Hp → Prop} {Q1 : V → Hp → Prop} (h : PostT G S B W m H σ Q (r.bind f))
    (k : ∀ (d : D × Nat) (μ1 : Sto) (v : V) (H1 : Hp) (m1 : List Addr), r = .ok d μ1 → Evo m H m1 H1 → Rep G S B m1 μ1 H1 → RV G (av S m1) m1 H1 v d.1 → PostT G S B W m1 H1 σ Q (f d μ1) → Q1 v H1) : PostE G S B W m H σ Q1 r := by
  cases r with
  | ok d μ1 => exact fun v H1 m1 e R r _ => k d μ1 v H1 m1 rfl e R r (PostT.shift e h)
  | err x μ' => exact h
  | bad => exact h
theorem bindTT {r : R (D × Nat)} {Q : VK} {f : Bool → Sto → R (D × Nat)} {Q1 : Bool → Hp → Prop} (h : PostE G S B W m H σ Q ((tst r).bind f))
    (k : ∀ (c : Bool) (μ1 : Sto) (H1 : Hp) (m1 : List Addr), tst r = .ok c μ1 → Evo m H m1 H1 → Rep G S B m1 μ1 H1 → PostE G S B W m1 H1 σ Q (f c μ1) → Q1 c H1) : PostT G S B W m H σ Q1 (tst r) := by
  cases q : tst r with
  | ok d μ1 => rw [q] at h; exact fun H1 m1 e R => k d μ1 H1 m1 q e R (PostE.shift e h)
  | err x μ' => rw [q] at h; exact h
  | bad => rw [q] at h; exact h
theorem PostI.shift {K : PySem.W.Frag} {r : R Src} {Q : L2.It → Hp → Prop} (e : Evo m H m1 H1) (h : PostI K G S B W m H σ Q r) : PostI K G S B W m1 H1 σ Q r := by
  cases r with
  | ok k μ' => exact fun J H' m' e1 R => h J H' m' (e.trans e1) R
  | err x μ' => exact fun c dd H' m' e1 R r => h c dd H' m' (e.trans e1) R r
  | bad => exact h
theorem bindI {K : PySem.W.Frag} {r : R (D × Nat)} {f : D × Nat → Sto → R Src} {Q : L2.It → Hp → Prop} {Q1 : V → Hp → Prop} (h : PostI K G S B W m H σ Q (r.bind f))
    (k : ∀ (d : D × Nat) (μ1 : Sto) (v : V) (H1 : Hp) (m1 : List Addr), r = .ok d μ1 → Evo m H m1 H1 → Rep G S B m1 μ1 H1 → RV G (av S m1) m1 H1 v d.1 → PostI K G S B W m1 H1 σ Q (f d μ1) → Q1 v H1) : PostE G S B W m H σ Q1 r := by
  cases r with
  | ok d μ1 => exact fun v H1 m1 e R r _ => k d μ1 v H1 m1 rfl e R r (PostI.shift e h)
  | err x μ' => exact h
  | bad => exact h
end

/-! ### one rule a form -/
theorem r_bin (hK : X.K = G.K) {a c : Expr} {ea ec : E} {op : Operator} {pos : Pos} (ha : PE X a (tE G T b W ea)) (hc : PE X c (tE G T b W ec)) : PE X (.BinOp a op c pos) (tE G T b W (.bin op ea ec)) := by
  refine (pe_op (op_bin (G := G) hK op) ha hc).mono fun σ H Q ⟨S, B, m, μ, ρ, hB, R, V, P⟩ => ⟨S, B, m, μ, ρ, hB, R, V, ?_⟩
  refine PostE.bind P fun d μ1 v H1 m1 _ e1 R1 r1 _ P1 => ⟨S, B, m1, μ1, ρ, hB, R1, V.evo e1, ?_⟩
  exact PostE.bind P1 fun d2 μ2 v2 H2 m2 _ e2 R2 r2 _ P2 => ⟨S, B, W, m2, μ2, σ, _, _, R2, r1.evo e2, r2, P2⟩
theorem r_cmp {a c : Expr} {ea ec : E} {op : CmpOp} {pos : Pos} (hK : X.K = G.K) (hu : X.A.units + 64 < cLine) (hs : isSet c = false) (ha : PE X a (tE G T b W ea)) (hc : PE X c (tE G T b W ec)) : PE X (.Compare a [op] [c] pos) (tE G T b W (.cmp op ea ec)) := by
  have hm : behindInMarks op c = false := by cases c <;> first | rfl | cases hs
  refine (pe_cmpR (op_cmp (G := G) hK hu op) ha hc hm).mono fun σ H Q ⟨S, B, m, μ, ρ, hB, R, V, P⟩ => ⟨S, B, m, μ, ρ, hB, R, V, ?_⟩
  refine PostE.bind P fun d μ1 v H1 m1 _ e1 R1 r1 _ P1 => ⟨S, B, m1, μ1, ρ, hB, R1, V.evo e1, ?_⟩
  exact PostE.bind P1 fun d2 μ2 v2 H2 m2 _ e2 R2 r2 _ P2 => ⟨S, B, W, m2, μ2, σ, _, _, R2, r1.evo e2, r2, P2⟩
theorem PostT.of {S : AP_} {B : Nat → Prop} {m : List Addr} {H : Hp} {σ : L2.St} {r : R (D × Nat)} {Q : Bool → Hp → Prop} (h : PostT G S B W m H σ Q (tst r)) (hb : ∀ d μ, r = .ok d μ → ∃ k, d.1 = .bl k) : PostE G S B W m H σ (fun x H' => ∃ k, x = .bl k ∧ Q k H') r := by
  cases r with
  | ok d μ =>
    obtain ⟨k, e⟩ := hb d μ rfl
    intro v H' m' e1 R r _
    rw [e] at r
    cases r
    have h : PostT G S B W m H σ Q (okR (truD μ d.1) μ) := h
    rw [e] at h
    exact ⟨k, rfl, h H' m' e1 R⟩
  | err x μ => exact h
  | bad => exact h
theorem bind_ok {α β : Type} {r : R α} {f : α → Sto → R β} {y : β} {μ2 : Sto} (h : r.bind f = .ok y μ2) : ∃ x μ1, r = .ok x μ1 ∧ f x μ1 = .ok y μ2 := by
  cases r with
  | ok x μ1 => exact ⟨x, μ1, rfl, h⟩
  | err x μ1 => cases h
  | bad => cases h
theorem sh_ok {o : Option D} {μ μ2 : Sto} {d : D × Nat} (h : sh o μ = .ok d μ2) : o = some d.1 ∧ μ2 = μ := by
  cases o with
  | none => cases h
  | some x => cases h; exact ⟨rfl, rfl⟩
theorem cmp_bl {op : CmpOp} {ea ec : E} {ρ : Ev} {μ : Sto} : ∀ d μ', evE T b (.cmp op ea ec) ρ μ = .ok d μ' → ∃ k, d.1 = .bl k := fun d μ' h => by
  obtain ⟨x, μ1, _, h⟩ := bind_ok h
  obtain ⟨y, μ2, _, h⟩ := bind_ok h
  obtain ⟨h, _⟩ := sh_ok h
  obtain ⟨k, _, e⟩ := map_some h
  exact ⟨k, e⟩
theorem r_cmpT {a c : Expr} {ea ec : E} {op : CmpOp} {pos : Pos} (hK : X.K = G.K) (hu : X.A.units + 64 < cLine) (hs : isSet c = false) (ha : PE X a (tE G T b W ea)) (hc : PE X c (tE G T b W ec)) : PT X (.Compare a [op] [c] pos) (tT G T b W (.cmp op ea ec)) := by
  have hm : behindInMarks op c = false := by cases c <;> first | rfl | cases hs
  refine (pt_cmpR (op_cmp (G := G) hK hu op) ha hc hm).mono fun σ H Q ⟨S, B, m, μ, ρ, hB, R, V, P⟩ => ⟨S, B, m, μ, ρ, hB, R, V, ?_⟩
  have P := PostT.of P cmp_bl
  refine PostE.bind P fun d μ1 v H1 m1 _ e1 R1 r1 _ P1 => ⟨S, B, m1, μ1, ρ, hB, R1, V.evo e1, ?_⟩
  exact PostE.bind P1 fun d2 μ2 v2 H2 m2 _ e2 R2 r2 _ P2 => ⟨S, B, W, m2, μ2, σ, _, _, R2, r1.evo e2, r2, P2⟩
theorem notSets {c g : Expr} {op op2 : CmpOp} (h : isSet g = false) : lastMarks [op, op2] [c, g] = false := by
  show behindInMarks op2 g = false
  cases g <;> first | rfl | cases h
theorem cmp2_tail {S : AP_} {B : Nat → Prop} {m : List Addr} {μ : Sto} {H : Hp} {σ : L2.St} {ρ : Ev} {Q : VK} {x y : V} {d e : D} {op op2 : CmpOp} {eg : E} (hB : ∀ x, B x → x ≤ b) (R : Rep G S B m μ H) (V : EnvR G (av S m) m H σ ρ) (rx : RV G (av S m) m H x d) (ry : RV G (av S m) m H y e)
    (P : PostE G S B W m H σ Q (match cmpD op d e μ with
      | some true => (evE T b eg ρ μ).bind fun g μ3 => sh ((cmpD op2 e g.1 μ3).map .bl) μ3
      | some false => .ok (.bl false, 0) μ
      | none => .bad)) :
    rP2 G (fun a b μ => sh ((cmpD op a b μ).map .bl) μ) x y H fun z H3 => ∃ k, z = .bl k ∧ (if k = true then tE G T b W eg σ H3 fun w' H4 => rP2 G (fun a b μ => sh ((cmpD op2 a b μ).map .bl) μ) y w' H4 Q else Q (.bl false) H3) := by
  refine ⟨S, B, W, m, μ, σ, d, e, R, rx, ry, ?_⟩
  show PostE _ _ _ _ _ _ _ _ (sh ((cmpD op d e μ).map .bl) μ)
  cases q : cmpD op d e μ with
  | none => rw [q] at P; exact P
  | some k =>
    rw [q] at P
    intro z H3 m3 e3 R3 r3 _
    cases r3
    refine ⟨k, rfl, ?_⟩
    cases k with
    | false => exact iteF (PostE.val (PostE.shift e3 P) R3 (.bl false))
    | true =>
      refine iteT ⟨S, B, m3, μ, ρ, hB, R3, V.evo e3, ?_⟩
      refine PostE.bind (PostE.shift e3 P) fun g μ4 v4 H4 m4 _ e4 R4 r4 _ P4 => ⟨S, B, W, m4, μ4, σ, _, _, R4, (ry.evo e3).evo e4, r4, P4⟩
theorem r_cmp2 {a c g : Expr} {ea ec eg : E} {op op2 : CmpOp} {pos : Pos} (hK : X.K = G.K) (hu : X.A.units + 64 < cLine) (hs : isSet g = false) (ha : PE X a (tE G T b W ea)) (hc : PE X c (tE G T b W ec)) (hg : PE X g (tE G T b W eg)) :
    PE X (.Compare a [op, op2] [c, g] pos) (tE G T b W (.cmp2 op op2 ea ec eg)) := by
  refine (pe_chain (op_cmp (G := G) hK hu op) (op_cmp (G := G) hK hu op2) ha hc hg (notSets hs)).mono fun σ H Q ⟨S, B, m, μ, ρ, hB, R, V, P⟩ => ⟨S, B, m, μ, ρ, hB, R, V, ?_⟩
  refine PostE.bind P fun d μ1 v H1 m1 _ e1 R1 r1 _ P1 => ⟨S, B, m1, μ1, ρ, hB, R1, V.evo e1, ?_⟩
  exact PostE.bind P1 fun d2 μ2 v2 H2 m2 _ e2 R2 r2 _ P2 => cmp2_tail hB R2 ((V.evo e1).evo e2) (r1.evo e2) r2 P2
theorem cmp2_bl {op op2 : CmpOp} {ea ec eg : E} {ρ : Ev} {μ : Sto} : ∀ d μ', evE T b (.cmp2 op op2 ea ec eg) ρ μ = .ok d μ' → ∃ k, d.1 = .bl k := fun d μ' h => by
  obtain ⟨x, μ1, _, h⟩ := bind_ok h
  obtain ⟨y, μ2, _, h⟩ := bind_ok h
  have h : (match cmpD op x.1 y.1 μ2 with
      | some true => (evE T b eg ρ μ2).bind fun g μ3 => sh ((cmpD op2 y.1 g.1 μ3).map .bl) μ3
      | some false => .ok (.bl false, 0) μ2
      | none => .bad) = .ok d μ' := h
  split at h
  · obtain ⟨z, μ3, _, h⟩ := bind_ok h
    obtain ⟨h, _⟩ := sh_ok h
    obtain ⟨k, _, e⟩ := map_some h
    exact ⟨k, e⟩
  · cases h; exact ⟨false, rfl⟩
  · cases h
theorem r_cmp2T {a c g : Expr} {ea ec eg : E} {op op2 : CmpOp} {pos : Pos} (hK : X.K = G.K) (hu : X.A.units + 64 < cLine) (hs : isSet g = false) (ha : PE X a (tE G T b W ea)) (hc : PE X c (tE G T b W ec)) (hg : PE X g (tE G T b W eg)) :
    PT X (.Compare a [op, op2] [c, g] pos) (tT G T b W (.cmp2 op op2 ea ec eg)) := by
  refine (pt_chain (op_cmp (G := G) hK hu op) (op_cmp (G := G) hK hu op2) ha hc hg (notSets hs)).mono fun σ H Q ⟨S, B, m, μ, ρ, hB, R, V, P⟩ => ⟨S, B, m, μ, ρ, hB, R, V, ?_⟩
  have P := PostT.of P cmp2_bl
  refine PostE.bind P fun d μ1 v H1 m1 _ e1 R1 r1 _ P1 => ⟨S, B, m1, μ1, ρ, hB, R1, V.evo e1, ?_⟩
  exact PostE.bind P1 fun d2 μ2 v2 H2 m2 _ e2 R2 r2 _ P2 => cmp2_tail hB R2 ((V.evo e1).evo e2) (r1.evo e2) r2 P2
theorem r_neg {a : Expr} {ea : E} {pos : Pos} (ha : PE X a (tE G T b W ea)) : PE X (.UnaryOp .USub a pos) (tE G T b W (.neg ea)) := by
  refine (pe_un un_neg ha).mono fun σ H Q ⟨S, B, m, μ, ρ, hB, R, V, P⟩ => ⟨S, B, m, μ, ρ, hB, R, V, ?_⟩
  exact PostE.bind P fun d μ1 v H1 m1 _ e1 R1 r1 _ P1 => un_negR R1 r1 P1
theorem r_not (hK : X.K = G.K) {a : Expr} {ea : E} {pos : Pos} (ha : PE X a (tE G T b W ea)) : PE X (.UnaryOp .Not a pos) (tE G T b W (.not ea)) := by
  refine (pe_notT ha).mono fun σ H Q ⟨S, B, m, μ, ρ, hB, R, V, P⟩ => ⟨S, B, m, μ, ρ, hB, R, V, ?_⟩
  refine PostE.bind P fun d μ1 v H1 m1 _ e1 R1 r1 _ P1 => ?_
  have P1 : PostE G S B W m1 H1 σ Q (sh ((truD μ1 d.1).map fun k => .bl !k) μ1) := P1
  cases q : truD μ1 d.1 with
  | none => rw [q] at P1; exact False.elim P1
  | some k => rw [q] at P1; exact ⟨k, hK ▸ tru_at R1 r1 q, P1.val R1 (.bl _)⟩
theorem r_and (hK : X.K = G.K) {a c : Expr} {rest : List Expr} {ea ec : E} {pos : Pos} (ha : PE X a (tE G T b W ea)) (hc : PE X (.BoolOp .And (c :: rest) pos) (tE G T b W ec)) : PE X (.BoolOp .And (a :: c :: rest) pos) (tE G T b W (.and ea ec)) := by
  refine (pe_andT ha hc).mono fun σ H Q ⟨S, B, m, μ, ρ, hB, R, V, P⟩ => ⟨S, B, m, μ, ρ, hB, R, V, ?_⟩
  refine PostE.bind P fun d μ1 v H1 m1 _ e1 R1 r1 _ P1 => ?_
  have P1 : PostE G S B W m1 H1 σ Q (match truD μ1 d.1 with | some true => evE T b ec ρ μ1 | some false => .ok (d.1, 0) μ1 | none => .bad) := P1
  cases q : truD μ1 d.1 with
  | none => rw [q] at P1; exact False.elim P1
  | some k =>
    rw [q] at P1
    refine ⟨k, hK ▸ tru_at R1 r1 q, ?_⟩
    cases k with
    | true => exact iteT ⟨S, B, m1, μ1, ρ, hB, R1, V.evo e1, P1⟩
    | false => exact iteF (P1.val R1 r1)
theorem r_or (hK : X.K = G.K) {a c : Expr} {rest : List Expr} {ea ec : E} {pos : Pos} (ha : PE X a (tE G T b W ea)) (hc : PE X (.BoolOp .Or (c :: rest) pos) (tE G T b W ec)) : PE X (.BoolOp .Or (a :: c :: rest) pos) (tE G T b W (.or ea ec)) := by
  refine (pe_orT ha hc).mono fun σ H Q ⟨S, B, m, μ, ρ, hB, R, V, P⟩ => ⟨S, B, m, μ, ρ, hB, R, V, ?_⟩
  refine PostE.bind P fun d μ1 v H1 m1 _ e1 R1 r1 _ P1 => ?_
  have P1 : PostE G S B W m1 H1 σ Q (match truD μ1 d.1 with | some false => evE T b ec ρ μ1 | some true => .ok (d.1, 0) μ1 | none => .bad) := P1
  cases q : truD μ1 d.1 with
  | none => rw [q] at P1; exact False.elim P1
  | some k =>
    rw [q] at P1
    refine ⟨k, hK ▸ tru_at R1 r1 q, ?_⟩
    cases k with
    | false => exact iteF ⟨S, B, m1, μ1, ρ, hB, R1, V.evo e1, P1⟩
    | true => exact iteT (P1.val R1 r1)
theorem r_ife {t a c : Expr} {et ea ec : E} {pos : Pos} (ht : PT X t (tT G T b W et)) (ha : PE X a (tE G T b W ea)) (hc : PE X c (tE G T b W ec)) : PE X (.IfExp t a c pos) (tE G T b W (.ife et ea ec)) := by
  refine (pe_ifExp ht ha hc).mono fun σ H Q ⟨S, B, m, μ, ρ, hB, R, V, P⟩ => ⟨S, B, m, μ, ρ, hB, R, V, ?_⟩
  have P : PostE G S B W m H σ Q ((tst (evE T b et ρ μ)).bind fun k μ1 => if k = true then evE T b ea ρ μ1 else evE T b ec ρ μ1) := by
    have P : PostE G S B W m H σ Q ((evE T b et ρ μ).bind fun d μ1 => match truD μ1 d.1 with | some true => evE T b ea ρ μ1 | some false => evE T b ec ρ μ1 | none => .bad) := P
    cases q : evE T b et ρ μ with
    | ok d μ1 =>
      rw [q] at P
      have P : PostE G S B W m H σ Q (match truD μ1 d.1 with | some true => evE T b ea ρ μ1 | some false => evE T b ec ρ μ1 | none => .bad) := P
      show PostE G S B W m H σ Q ((okR (truD μ1 d.1) μ1).bind _)
      cases q2 : truD μ1 d.1 with
      | none => rw [q2] at P; exact P
      | some k =>
        rw [q2] at P
        cases k with
        | true => exact P
        | false => exact P
    | err x μ1 => rw [q] at P; exact P
    | bad => rw [q] at P; exact P
  refine bindTT P fun k μ1 H1 m1 _ e1 R1 P1 => ?_
  cases k with
  | true => exact iteT ⟨S, B, m1, μ1, ρ, hB, R1, V.evo e1, by simpa using P1⟩
  | false => exact iteF ⟨S, B, m1, μ1, ρ, hB, R1, V.evo e1, by simpa using P1⟩
end
end VM

set_option Elab.async false
set_option maxRecDepth 100000
set_option autoImplicit false
set_option linter.unusedVariables false
/-! expressions: names, lists, calls -/
namespace VM
open PySem PySem.Spec PyProof.Rows L2
section
variable {X : Cx} {G : Gb} {Tx : Tr} {T : Tb} {b : Nat} {W : L2.WX}
theorem r_ix (hK : X.K = G.K) {a c : Expr} {ea ec : E} {pos : Pos} (hc' : PlainIx c) (ha : PE X a (tE G T b W ea)) (hc : PE X c (tE G T b W ec)) : PE X (.Subscript a c pos) (tE G T b W (.ix ea ec)) := by
  refine (pe_ix (ix_rule (G := G) hK) ha hc hc').mono fun σ H Q ⟨S, B, m, μ, ρ, hB, R, V, P⟩ => ⟨S, B, m, μ, ρ, hB, R, V, ?_⟩
  refine PostE.bind P fun d μ1 v H1 m1 _ e1 R1 r1 _ P1 => ⟨S, B, m1, μ1, ρ, hB, R1, V.evo e1, ?_⟩
  exact PostE.bind P1 fun d2 μ2 v2 H2 m2 _ e2 R2 r2 _ P2 => ⟨S, B, W, m2, μ2, σ, _, _, R2, r1.evo e2, r2, P2⟩
/-- a part of a slice -/
def tPo (G : Gb) (T : Tb) (b : Nat) (W : L2.WX) (e : E) : TO := fun σ H Q => ∃ S B m μ ρ, (∀ x, B x → x ≤ b) ∧ Rep G S B m μ H ∧ EnvR G (av S m) m H σ ρ ∧ PostE G S B W m H σ (fun x H' => ∃ o, (x = .non ∧ o = none ∨ ∃ i, x = .int i ∧ o = some i) ∧ Q o H') (evE T b e ρ μ)
theorem po_at {o : Option Expr} {e : E} (h : match o with | none => e = .npart | some c => PE X c (tE G T b W e)) : PO X o (tPo G T b W e) := by
  cases o with
  | none =>
    have h : e = .npart := h
    subst h
    refine ⟨fun pins s σ H Q I ⟨S, B, m, μ, ρ, hB, R, V, P⟩ => ?_⟩
    refine po_none.run pins s σ H Q I ?_
    obtain ⟨o, h1, h2⟩ := PostE.val P R .non
    rcases h1 with ⟨_, rfl⟩ | ⟨i, e, _⟩
    · exact h2
    · cases e
  | some c =>
    have h : PE X c (tE G T b W e) := h
    refine ⟨fun pins s σ H Q I ⟨S, B, m, μ, ρ, hB, R, V, P⟩ => ?_⟩
    have h2 := h.run pins s σ H (fun x H' => ∃ o, (x = .non ∧ o = none ∨ ∃ i, x = .int i ∧ o = some i) ∧ Q o H') I ⟨S, B, m, μ, ρ, hB, R, V, P⟩
    show wpAny (model X.prog X.w) X.A (evalPart (some c) X.env) _ X.xe s
    rw [evalPart_some]
    refine thn h2 fun u s1 ⟨x, H1, I1, r1, o, h1, q⟩ => ?_
    rcases h1 with ⟨rfl, rfl⟩ | ⟨i, rfl, rfl⟩
    · cases r1
      exact ⟨none, H1, I1, IsPart.none, q⟩
    · obtain ⟨t, rfl⟩ := r1
      exact ⟨some i, H1, I1, IsPart.int i t, q⟩
theorem part_at {S : AP_} {m : List Addr} {H : Hp} {v : V} {d : D} {o : Option Int} (r : RV G (av S m) m H v d) (h : partD d = some o) : (v = .non ∧ o = none ∨ ∃ i, v = .int i ∧ o = some i) := by
  cases r with
  | non => cases h; exact .inl ⟨rfl, rfl⟩
  | int i => cases h; exact .inr ⟨_, rfl, rfl⟩
  | _ => cases h
theorem r_slc (hK : X.K = G.K) {a : Expr} {lo hi : Option Expr} {ea el eh : E} {pos p2 : Pos} (ha : PE X a (tE G T b W ea)) (hl : match lo with | none => el = .npart | some c => PE X c (tE G T b W el)) (hh : match hi with | none => eh = .npart | some c => PE X c (tE G T b W eh)) :
    PE X (.Subscript a (.Slice lo hi none p2) pos) (tE G T b W (.slc ea el eh)) := by
  refine (pe_slice sl_list ha (po_at hl) (po_at hh)).mono fun σ H Q ⟨S, B, m, μ, ρ, hB, R, VV, P⟩ => ⟨S, B, m, μ, ρ, hB, R, VV, ?_⟩
  refine PostE.bind P fun d μ1 v H1 m1 _ e1 R1 r1 _ P1 => ⟨S, B, m1, μ1, ρ, hB, R1, VV.evo e1, ?_⟩
  refine PostE.bind P1 fun l μ2 v2 H2 m2 _ e2 R2 r2 _ P2 => ?_
  have P2 : PostE G S B W m2 H2 σ Q (match partD l.1 with
    | none => .bad
    | some lv => (evE T b eh ρ μ2).bind fun h μ3 => match partD h.1 with
      | none => .bad
      | some hv => slD d.1 lv hv μ3) := P2
  cases hl2 : partD l.1 with
  | none => rw [hl2] at P2; exact False.elim P2
  | some o =>
    rw [hl2] at P2
    refine ⟨o, part_at r2 hl2, S, B, m2, μ2, ρ, hB, R2, (VV.evo e1).evo e2, ?_⟩
    refine PostE.bind P2 fun h μ3 v3 H3 m3 _ e3 R3 r3 _ P3 => ?_
    have P3 : PostE G S B W m3 H3 σ Q (match partD h.1 with | none => .bad | some hv => slD d.1 o hv μ3) := P3
    cases hh2 : partD h.1 with
    | none => rw [hh2] at P3; exact False.elim P3
    | some o2 =>
      rw [hh2] at P3
      exact ⟨o2, part_at r3 hh2, hK ▸ sl_at R3 ((r1.evo e2).evo e3) P3⟩

/-! argument lists -/
theorem star_cons {e : Expr} {es : List Expr} {env : Env} (h : isStar e = false) : starEach (e :: es) env = (false, eval e env) :: starEach es env := by
  cases e <;> first | rfl | cases h
theorem star_any {env : Env} {pos : Pos} : ∀ {es : List Expr}, es.any isStar = false → (backTo pos (starEach es env)).any (·.1) = false
  | [], _ => rfl
  | e :: es, h => by
    rw [List.any_cons, Bool.or_eq_false_iff] at h
    rw [star_cons h.1]
    exact star_any h.2
theorem star_all {env : Env} {pos : Pos} : ∀ {es : List Expr}, es.any isStar = false → (backTo pos (starEach es env)).all (fun x => !x.1) = true
  | [], _ => rfl
  | e :: es, h => by
    rw [List.any_cons, Bool.or_eq_false_iff] at h
    rw [star_cons h.1]
    exact star_all h.2
theorem r_args {f : Expr → E} : ∀ {es : List Expr}, es.any isStar = false → (∀ e ∈ es, PE X e (tE G T b W (f e))) → PA X es (tA G T b W (esOf (es.map f)))
  | [], _, _ => pa_nil.mono fun σ H Q ⟨S, B, m, μ, ρ, hB, R, VV, P⟩ => P [] H m (Evo.refl m H) R .nil
  | e :: es, hs, h => by
    rw [List.any_cons, Bool.or_eq_false_iff] at hs
    refine (pa_cons (h e List.mem_cons_self) (r_args hs.2 fun x hx => h x (List.mem_cons_of_mem _ hx)) (star_cons hs.1)).mono fun σ H Q ⟨S, B, m, μ, ρ, hB, R, VV, P⟩ => ⟨S, B, m, μ, ρ, hB, R, VV, ?_⟩
    have P : PostA G S B W m H σ Q ((evE T b (f e) ρ μ).bind fun d μ1 => (evEs T b (esOf (es.map f)) ρ μ1).bind fun ds μ2 => .ok (d.1 :: ds) μ2) := P
    refine bindA P fun d μ1 v H1 m1 _ e1 R1 r1 P1 => ⟨S, B, m1, μ1, ρ, hB, R1, VV.evo e1, ?_⟩
    exact bindAA P1 fun ds μ2 vs H2 m2 _ e2 R2 t2 P2 => P2 (v :: vs) H2 m2 (Evo.refl m2 H2) R2 (.cons (r1.evo e2) t2)
theorem r_lst {es : List Expr} {ir : Es} {pos : Pos} (ha : PA X es (tA G T b W ir)) : PE X (.List es pos) (tE G T b W (.lst ir)) := by
  refine (pe_lst ha).mono fun σ H Q ⟨S, B, m, μ, ρ, hB, R, VV, P⟩ => ⟨S, B, m, μ, ρ, hB, R, VV, ?_⟩
  refine bindAE P fun ds μ1 vs H1 m1 _ e1 R1 t1 P1 => ?_
  have P1 : PostE G S B W m1 H1 σ Q (if ds.length ≤ sizeLine then .ok (.lst ds, 1) μ1 else .bad) := P1
  obtain ⟨hz, P1⟩ := ifR P1 id
  exact ⟨by rw [t1.length]; exact hz, fun p hp => P1.newL R1 t1 hp⟩
theorem r_tup {es : List Expr} {ir : Es} {pos : Pos} {k : Nat} (ha : PA X es (tA G T b W ir)) : PE X (.Tuple es k pos) (tE G T b W (.tup ir)) := by
  refine (pe_tup ha).mono fun σ H Q ⟨S, B, m, μ, ρ, hB, R, VV, P⟩ => ⟨S, B, m, μ, ρ, hB, R, VV, ?_⟩
  refine bindAE P fun ds μ1 vs H1 m1 _ e1 R1 t1 P1 => ?_
  have P1 : PostE G S B W m1 H1 σ Q (if ds.length ≤ sizeLine then .ok (.tup ds, 0) μ1 else .bad) := P1
  obtain ⟨hz, P1⟩ := ifR P1 id
  exact ⟨by rw [t1.length]; exact hz, fun p hp => P1.newT R1 t1 hp⟩
theorem r_call (Gd : Good X G Tx T) (tk : Takes X W) {x : Str} {e : Expr} {es : List Expr} {ir : Es} {p pos : Pos} (hd : Tx.defs.contains x = true) (hg : Gl X x) (hdb : (x == ("__debug__" : Str)) = false) (hs : (e :: es).any isStar = false) (ha : PA X (e :: es) (tA G T b W ir)) :
    PE X (.Call (.Name x p) (e :: es) [] pos) (tE G T b W (.call x ir)) := by
  obtain ⟨fa, fd, ps, k, hm, hk, F, hr, hb, hn⟩ := Gd.call x hd
  rw [List.any_cons, Bool.or_eq_false_iff] at hs
  refine (pe_callS (E := WE W) F hr hg hm hk hb (fun σ => passAt tk σ) ha hdb (star_cons hs.1) (star_any hs.2)).mono fun σ H Q ⟨S, B, m, μ, ρ, hB, R, VV, P⟩ => ⟨S, B, m, μ, ρ, hB, R, VV, ?_⟩
  refine bindAE P fun ds μ1 vs H1 m1 _ e1 R1 t1 P1 => ?_
  have P1 : PostE G S B W m1 H1 σ Q (T.call x b ds μ1) := P1
  have hnb : T.call x b ds μ1 ≠ .bad := fun z => by rw [z] at P1; exact P1
  refine ⟨by rw [t1.length]; exact hn b ds μ1 hnb, S, B, b, m1, μ1, ds, hB, R1, t1, ?_⟩
  cases q : T.call x b ds μ1 with
  | ok d μ2 => rw [q] at P1; exact P1
  | err y μ2 => rw [q] at P1; exact P1
  | bad => exact absurd q hnb
theorem boots : ∀ x ∈ (["len", "abs", "max", "min", "all", "any", "sum", "isinstance"] : List Str), bootBuiltins x = some (.builtin (String.ofList (x.cps.toList.map Char.ofNat))) := by decide +kernel
theorem r_biF {x : Str} {id : String} {f : List D → Sto → R (D × Nat)} {e : Expr} {es : List Expr} {ir : Es} {p pos : Pos} (hf : ∀ ds μ, biD x ds μ = f ds μ) (hr : CallR X (.builtin id) (rC G f)) (hv : bootBuiltins x = some (.builtin id)) (hn : x ≠ "__name__") (hdb : (x == ("__debug__" : Str)) = false)
    (hg : Gl X x) (hm : X.mg x = none) (hs : (e :: es).any isStar = false) (ha : PA X (e :: es) (tA G T b W ir)) : PE X (.Call (.Name x p) (e :: es) [] pos) (tE G T b W (.bi x ir)) := by
  rw [List.any_cons, Bool.or_eq_false_iff] at hs
  refine (pe_callB hr hg hm hv ha hn hdb (star_cons hs.1) (star_any hs.2)).mono fun σ H Q ⟨S, B, m, μ, ρ, hB, R, VV, P⟩ => ⟨S, B, m, μ, ρ, hB, R, VV, ?_⟩
  refine bindAE P fun ds μ1 vs H1 m1 _ e1 R1 t1 P1 => ⟨S, B, W, m1, μ1, σ, ds, R1, t1, ?_⟩
  have P1 : PostE G S B W m1 H1 σ Q (biD x ds μ1) := P1
  rw [hf] at P1; exact P1
theorem r_biT {x : Str} {id : String} {f : List D → Sto → R (D × Nat)} {e : Expr} {es : List Expr} {ir : Es} {p pos : Pos} (hf : ∀ ds μ, biD x ds μ = f ds μ) (hr : CallR X (.type id) (rC G f)) (hv : bootBuiltins x = some (.type id)) (hn : x ≠ "__name__") (hdb : (x == ("__debug__" : Str)) = false)
    (hg : Gl X x) (hm : X.mg x = none) (hs : (e :: es).any isStar = false) (ha : PA X (e :: es) (tA G T b W ir)) : PE X (.Call (.Name x p) (e :: es) [] pos) (tE G T b W (.bi x ir)) := by
  rw [List.any_cons, Bool.or_eq_false_iff] at hs
  refine (pe_callTy hr hg hm hv ha hn hdb (star_cons hs.1) (star_any hs.2)).mono fun σ H Q ⟨S, B, m, μ, ρ, hB, R, VV, P⟩ => ⟨S, B, m, μ, ρ, hB, R, VV, ?_⟩
  refine bindAE P fun ds μ1 vs H1 m1 _ e1 R1 t1 P1 => ⟨S, B, W, m1, μ1, σ, ds, R1, t1, ?_⟩
  have P1 : PostE G S B W m1 H1 σ Q (biD x ds μ1) := P1
  rw [hf] at P1; exact P1
theorem r_bi (Gd : Good X G Tx T) {x : Str} {e : Expr} {es : List Expr} {ir : Es} {p pos : Pos} (hx : biNames.contains x = true) (hg : Gl X x) (hs : (e :: es).any isStar = false) (ha : PA X (e :: es) (tA G T b W ir)) : PE X (.Call (.Name x p) (e :: es) [] pos) (tE G T b W (.bi x ir)) := by
  have hm : X.mg x = none := Gd.bi x (List.mem_append_left _ (by simpa using hx))
  have hx : x ∈ biNames := by simpa using hx
  simp only [biNames, List.mem_cons, List.not_mem_nil, or_false] at hx
  rcases hx with rfl | rfl | rfl | rfl | rfl | rfl | rfl | rfl | rfl | rfl | rfl
  · exact r_biF (f := lenD) (fun _ _ => rfl) (callLen Gd.eqK) (by decide +kernel) (by decide) (by decide) hg hm hs ha
  · exact r_biT (f := intD) (fun _ _ => rfl) callInt (by decide +kernel) (by decide) (by decide) hg hm hs ha
  · exact r_biF (f := absD) (fun _ _ => rfl) callAbs (by decide +kernel) (by decide) (by decide) hg hm hs ha
  · exact r_biF (f := maxD) (fun _ _ => rfl) (callMax Gd.calm) (by decide +kernel) (by decide) (by decide) hg hm hs ha
  · exact r_biF (f := minD) (fun _ _ => rfl) (callMin Gd.calm) (by decide +kernel) (by decide) (by decide) hg hm hs ha
  · exact r_biT (f := listD) (fun _ _ => rfl) (callList Gd.eqK) (by decide +kernel) (by decide) (by decide) hg hm hs ha
  · exact r_biT (f := tupleD) (fun _ _ => rfl) (callTuple Gd.eqK) (by decide +kernel) (by decide) (by decide) hg hm hs ha
  · exact r_biF (f := allD) (fun _ _ => rfl) (callAll Gd.calm) (by decide +kernel) (by decide) (by decide) hg hm hs ha
  · exact r_biF (f := anyD) (fun _ _ => rfl) (callAny Gd.calm) (by decide +kernel) (by decide) (by decide) hg hm hs ha
  · exact r_biF (f := sumD) (fun _ _ => rfl) (callSum Gd.calm) (by decide +kernel) (by decide) (by decide) hg hm hs ha
  · exact r_biF (f := isinD) (fun _ _ => rfl) (callIsin Gd.eqK) (by decide +kernel) (by decide) (by decide) hg hm hs ha
theorem r_str (Gd : Good X G Tx T) {e : Expr} {es : List Expr} {ir : Es} {p pos : Pos} (hg : Gl X "str") (hs : (e :: es).any isStar = false) (ha : PA X (e :: es) (tA G T b W ir)) : PE X (.Call (.Name "str" p) (e :: es) [] pos) (tE G T b W (.bi (if Tx.cs then "str*" else "str") ir)) := by
  have hm : X.mg "str" = none := Gd.bi "str" (by simp)
  rw [List.any_cons, Bool.or_eq_false_iff] at hs
  split
  · rename_i hc
    refine (pe_callTy (callStrA (G := G) Gd.eqK (Gd.gd hc) Gd.hu) hg hm (by decide +kernel) ha (by decide) (by decide) (star_cons hs.1) (star_any hs.2)).mono fun σ H Q ⟨S, B, m, μ, ρ, hB, R, VV, P⟩ => ⟨S, B, m, μ, ρ, hB, R, VV, ?_⟩
    exact bindAE P fun ds μ1 vs H1 m1 _ e1 R1 t1 P1 => ⟨S, B, W, m1, μ1, σ, ds, R1, t1, P1⟩
  · refine (pe_callTy (callStr (G := G)) hg hm (by decide +kernel) ha (by decide) (by decide) (star_cons hs.1) (star_any hs.2)).mono fun σ H Q ⟨S, B, m, μ, ρ, hB, R, VV, P⟩ => ⟨S, B, m, μ, ρ, hB, R, VV, ?_⟩
    exact bindAE P fun ds μ1 vs H1 m1 _ e1 R1 t1 P1 => ⟨S, B, W, m1, μ1, σ, ds, R1, t1, P1⟩
theorem slot_at {N : List Str} {x : Str} : ∀ {i : Nat}, slotOf N x = some i → N[i]? = some x := by
  induction N with
  | nil => intro i h; cases h
  | cons y r ih =>
    intro i h
    unfold slotOf at h
    by_cases e : y = x
    · rw [if_pos e] at h; cases h; rw [e]; rfl
    · rw [if_neg e] at h
      obtain ⟨j, hj, rfl⟩ := map_some h
      exact ih hj
theorem r_var {i : Nat} {x : Str} {pos : Pos} (hN : X.N[i]? = some x) (hv : Vis X.env.scope x) (hd : (x == ("__debug__" : Str)) = false) (hcd : (x == ("__classdict__" : Str)) = false) : PE X (.Name x pos) (tE G T b W (.var i)) := by
  refine (pe_var hN hv hd hcd).mono fun σ H Q ⟨S, B, m, μ, ρ, hB, R, VV, P⟩ => ?_
  have P : PostE G S B W m H σ Q (match ρ[i]? with | some (some d) => .ok (d, 0) μ | _ => .bad) := P
  split at P
  · rename_i d h
    obtain ⟨v, e, r⟩ := VV.at_ i d h
    exact ⟨v, e, P.val R r⟩
  · exact False.elim P
theorem r_glob (Gd : Good X G Tx T) {x : Str} {pos : Pos} (hg : Gl X x) (hd : (x == ("__debug__" : Str)) = false) : PE X (.Name x pos) (tE G T b W (.glob x)) := by
  cases q : T.glob x with
  | none =>
    refine ⟨fun pins s σ H Q I ⟨S, B, m, μ, ρ, hB, R, VV, P⟩ => ?_⟩
    have P : PostE G S B W m H σ Q (sh (T.glob x) μ) := P
    rw [q] at P; exact False.elim P
  | some d =>
    obtain ⟨v, u, h, rv, r⟩ := Gd.gl x d q
    have fin : ∀ σ H Q, tE G T b W (.glob x) σ H Q → tC v σ H Q := fun σ H Q ⟨S, B, m, μ, ρ, hB, R, VV, P⟩ => by
      have P : PostE G S B W m H σ Q (sh (T.glob x) μ) := P
      rw [q] at P
      exact P.val R (r _ _ _)
    rcases h with h | ⟨h1, h2, h3⟩
    · exact (pe_glob hg h rv hd).mono fin
    · exact (pe_bltn hg h1 h2 rv h3 hd).mono fin
theorem thaw_imp {ir : E} {σ : L2.St} {H : Hp} {Q : VK} (h : tE G T b W (.thaw ir) σ H Q) : tE G T b W ir σ H Q := by
  obtain ⟨S, B, m, μ, ρ, hB, R, VV, P⟩ := h
  refine ⟨S, B, m, μ, ρ, hB, R, VV, ?_⟩
  have P : PostE G S B W m H σ Q ((evE T b ir ρ μ).bind fun d μ1 => match d with | (.lst xs, f + 1) => .ok (.cell μ1.length, 0) (μ1 ++ [.lst xs]) | _ => .bad) := P
  cases q : evE T b ir ρ μ with
  | bad => rw [q] at P; exact P
  | err x μ1 => rw [q] at P; exact P
  | ok d μ1 =>
    rw [q] at P
    obtain ⟨d, f⟩ := d
    have P : PostE G S B W m H σ Q (match (d, f) with | (.lst xs, f + 1) => .ok (.cell μ1.length, 0) (μ1 ++ [.lst xs]) | _ => .bad) := P
    intro v H1 m1 e1 R1 r1 nw
    cases d with
    | lst xs =>
      cases f with
      | zero => exact False.elim P
      | succ f =>
        rcases nw with nw | ⟨a, vs, ds, rfl, e3, h0, h1, t, hk⟩
        · cases nw
        · cases e3
          have hn : ¬ av S m1 a := by
            cases r1 with
            | lst _ n _ => exact n
          have P : PostE G S B W m H σ Q (.ok (.cell μ1.length, 0) (μ1 ++ [.lst xs])) := P
          refine P (.ref a) H1 (m1 ++ [a]) ⟨?_, fun x o hx nx => ?_, e1.dom⟩ (R1.thaw h1 hn t hk) (.cell ?_) (.inl rfl)
          · obtain ⟨w, rfl⟩ := e1.ext; exact ⟨w ++ [a], by simp⟩
          · obtain ⟨h2, n2⟩ := e1.keep x o hx nx
            refine ⟨h2, fun z => ?_⟩
            rcases List.mem_append.mp z with z | z
            · exact n2 z
            · have : x = a := by simpa using z
              subst this
              rw [h0] at hx; cases hx
          · rw [← R1.len, List.getElem?_append_right (Nat.le_refl _)]; simp
    | _ => exact False.elim P
theorem r_thaw {e : Expr} {ir : E} (h : PE X e (tE G T b W ir)) : PE X e (tE G T b W (.thaw ir)) := h.mono fun σ H Q q => thaw_imp q
theorem with_imp {ir : E} {p : Pos} {σ : L2.St} {H : Hp} {Q : VK} (h : tE G T b W (withTh Tx p ir) σ H Q) : tE G T b W ir σ H Q := by
  unfold withTh at h
  split at h
  · exact thaw_imp h
  · exact h
theorem r_with {e : Expr} {ir : E} {p : Pos} (h : PE X e (tE G T b W ir)) : PE X e (tE G T b W (withTh Tx p ir)) := by
  unfold withTh
  split
  · exact r_thaw h
  · exact h
end
end VM

set_option Elab.async false
set_option maxRecDepth 100000
set_option autoImplicit false
set_option linter.unusedVariables false
/-! methods of lists, tests, what is walked -/
namespace VM
open PySem PySem.Spec PyProof.Rows L2
section
variable {X : Cx} {G : Gb} {Tx : Tr} {T : Tb} {b : Nat} {W : L2.WX}
theorem base_plain {o : Expr} {m : Str} {env : Env} {whole : Sem Value} (h : simpleO o = true) : attributeBase o m env whole = whole := by
  cases o <;> first | rfl | cases h
abbrev rBM (G : Gb) (b : Nat) (f : Nat → Nat → List D → List D → Sto → R (D × Nat)) : V → List V → Hp → VK → Prop := fun x vs H Q => ∃ (S : AP_) (B : Nat → Prop) (W : L2.WX) (m : List Addr) (μ : Sto) (σ : L2.St) (l : Nat) (xs ds : List D), (∀ x, B x → x ≤ b) ∧ Rep G S B m μ H ∧ RV G (av S m) m H x (.cell l) ∧ μ[l]? = some (.lst xs) ∧ RVs G (av S m) m H vs ds ∧ PostE G S B W m H σ Q (f b l xs ds μ)
theorem tyV_list {K : PySem.W.Frag} {S : AP_} {B : Nat → Prop} {m : List Addr} {μ : Sto} {H : Hp} {v : V} {d : D} {xs : List D} (R : Rep G S B m μ H) (r : RV G (av S m) m H v d) (h : itemsL μ d = some xs) : tyV K "list" v H := by
  obtain ⟨a, vs, rfl, hh, _⟩ := items_at R r h
  exact .inl ⟨rfl, vs, .inl hh⟩
theorem bm_at {m' : Str} {f : Nat → Nat → List D → List D → Sto → R (D × Nat)} (hf : bmTab.lookup m' = some f) {S : AP_} {B : Nat → Prop} {m : List Addr} {μ : Sto} {H : Hp} {σ : L2.St} {Q : VK} {x : V} {vs : List V} {d : D} {ds : List D} (hB : ∀ x, B x → x ≤ b) (R : Rep G S B m μ H) (r : RV G (av S m) m H x d) (t : RVs G (av S m) m H vs ds)
    (P : PostE G S B W m H σ Q (bmD b m' d ds μ)) : rBM G b f x vs H Q := by
  unfold bmD at P
  rw [hf] at P
  cases r with
  | @cell l a hm =>
    have P : PostE G S B W m H σ Q (match μ[l]? with | some (.lst xs) => f b l xs ds μ | _ => .bad) := P
    split at P
    · rename_i xs h
      exact ⟨S, B, W, m, μ, σ, l, xs, ds, hB, R, .cell hm, h, t, P⟩
    · exact False.elim P
  | _ => exact False.elim P
theorem r_bm {o e : Expr} {es : List Expr} {eo : E} {ir : Es} {m : Str} {apos pos : Pos} {id : String} {f : Nat → Nat → List D → List D → Sto → R (D × Nat)} (hf : bmTab.lookup m = some f) (slot : Slot "list" m id) (hty : typeOf (.builtin id) = pure (.type "method_descriptor")) (hm : MtR X id (rBM G b f))
    (ho' : simpleO o = true) (hl : (apos.endLine == pos.line) = true) (hn : (e :: es).length < 30) (hs : (e :: es).any isStar = false) (ho : PE X o (tE G T b W eo)) (ha : PA X (e :: es) (tA G T b W ir)) :
    PE X (.Call (.Attribute o m apos) (e :: es) [] pos) (tE G T b W (.bm eo m ir)) := by
  have hs' := hs
  rw [List.any_cons, Bool.or_eq_false_iff] at hs
  have hfew : ((backTo pos (starEach (e :: es) X.env)).all (fun x => !x.1) && (backToKw pos (keywordEach [] X.env)).all (fun x => x.1.isSome) && decide ((e :: es).length + ([] : List Keyword).length + (if ([] : List Keyword).isEmpty then 0 else 1) < 30)) = true := by
    rw [star_all hs']
    show (true && true && decide ((e :: es).length + 0 + 0 < 30)) = true
    simpa using hn
  refine (pe_bm PySem.F.plainAttrs_list slot hty hm ho ha (base_plain ho') hfew hl (star_cons hs.1) (star_any hs.2)).mono fun σ H Q ⟨S, B, m', μ, ρ, hB, R, VV, P⟩ => ⟨S, B, m', μ, ρ, hB, R, VV, ?_⟩
  refine PostE.bind P fun d μ1 v H1 m1 _ e1 R1 r1 _ P1 => ?_
  have P1 : PostE G S B W m1 H1 σ Q (match itemsL μ1 d.1 with | none => .bad | some _ => (evEs T b ir ρ μ1).bind fun ds μ2 => bmD b m d.1 ds μ2) := P1
  cases h : itemsL μ1 d.1 with
  | none => rw [h] at P1; exact False.elim P1
  | some xs =>
    rw [h] at P1
    refine ⟨tyV_list R1 r1 h, S, B, m1, μ1, ρ, hB, R1, VV.evo e1, ?_⟩
    exact bindAE P1 fun ds μ2 vs H2 m2 _ e2 R2 t2 P2 => bm_at hf hB R2 (r1.evo e2) t2 P2
theorem r_bm0 {o : Expr} {eo : E} {m : Str} {apos pos : Pos} {id : String} {f : Nat → Nat → List D → List D → Sto → R (D × Nat)} (hf : bmTab.lookup m = some f) (slot : Slot "list" m id) (hty : typeOf (.builtin id) = pure (.type "method_descriptor")) (hm : MtR X id (rBM G b f))
    (ho' : simpleO o = true) (hl : (apos.endLine == pos.line) = true) (ho : PE X o (tE G T b W eo)) :
    PE X (.Call (.Attribute o m apos) [] [] pos) (tE G T b W (.bm eo m .nil)) := by
  refine (pe_bm0 PySem.F.plainAttrs_list slot hty hm ho (base_plain ho') hl).mono fun σ H Q ⟨S, B, m', μ, ρ, hB, R, VV, P⟩ => ⟨S, B, m', μ, ρ, hB, R, VV, ?_⟩
  refine PostE.bind P fun d μ1 v H1 m1 _ e1 R1 r1 _ P1 => ?_
  have P1 : PostE G S B W m1 H1 σ Q (match itemsL μ1 d.1 with | none => .bad | some _ => bmD b m d.1 [] μ1) := P1
  cases h : itemsL μ1 d.1 with
  | none => rw [h] at P1; exact False.elim P1
  | some xs =>
    rw [h] at P1
    exact ⟨tyV_list R1 r1 h, bm_at hf hB R1 r1 .nil P1⟩
theorem r_bms {o : Expr} {es : List Expr} {eo : E} {ir : Es} {m : Str} {apos pos : Pos} (h : bmNames.contains m = true) (ho' : simpleO o = true) (hl : (apos.endLine == pos.line) = true) (hn : es.length < 30) (hs : es.any isStar = false) (ho : PE X o (tE G T b W eo)) (ha : PA X es (tA G T b W ir)) (hi : es = [] → ir = .nil) :
    PE X (.Call (.Attribute o m apos) es [] pos) (tE G T b W (.bm eo m ir)) := by
  have h : m ∈ bmNames := by simpa using h
  simp only [bmNames, List.mem_cons, List.not_mem_nil, or_false] at h
  rcases h with rfl | rfl
  · cases es with
    | nil => rw [hi rfl]; exact r_bm0 (f := appendD) rfl PySem.F.slot_list_append PySem.F.type_list_append mtAppend ho' hl ho
    | cons e es => exact r_bm (f := appendD) rfl PySem.F.slot_list_append PySem.F.type_list_append mtAppend ho' hl hn hs ho ha
  · cases es with
    | nil => rw [hi rfl]; exact r_bm0 (f := popD) rfl PySem.F.slot_list_pop PySem.F.type_list_pop mtPop ho' hl ho
    | cons e es => exact r_bm (f := popD) rfl PySem.F.slot_list_pop PySem.F.type_list_pop mtPop ho' hl hn hs ho ha

/-! tests -/
theorem r_truth (hK : X.K = G.K) {e : Expr} {ir : E} (h : PE X e (tE G T b W ir)) (he : ∀ whole, isTrue e X.env whole = (do let v ← whole; standAt e.pos; holding [v] (truthy v))) : PT X e (tT G T b W ir) := by
  refine (pt_truth h he).mono fun σ H Q ⟨S, B, m, μ, ρ, hB, R, VV, P⟩ => ⟨S, B, m, μ, ρ, hB, R, VV, ?_⟩
  refine bindT P fun d μ1 v H1 m1 _ e1 R1 r1 P1 => ?_
  have P1 : PostT G S B W m1 H1 σ Q (okR (truD μ1 d.1) μ1) := P1
  cases q : truD μ1 d.1 with
  | none => rw [q] at P1; exact False.elim P1
  | some k => rw [q] at P1; exact ⟨k, hK ▸ tru_at R1 r1 q, P1 H1 m1 (Evo.refl m1 H1) R1⟩
theorem tst_and {ea ec : E} {ρ : Ev} {μ : Sto} : tst (evE T b (.and ea ec) ρ μ) = (tst (evE T b ea ρ μ)).bind fun k μ1 => if k = true then tst (evE T b ec ρ μ1) else .ok false μ1 := by
  show tst ((evE T b ea ρ μ).bind fun d μ1 => match truD μ1 d.1 with | some true => evE T b ec ρ μ1 | some false => .ok (d.1, 0) μ1 | none => .bad) = _
  cases evE T b ea ρ μ with
  | ok d μ1 =>
    show tst (match truD μ1 d.1 with | some true => evE T b ec ρ μ1 | some false => .ok (d.1, 0) μ1 | none => .bad) = (okR (truD μ1 d.1) μ1).bind _
    cases q : truD μ1 d.1 with
    | none => rfl
    | some k =>
      cases k with
      | true => rfl
      | false => show okR (truD μ1 d.1) μ1 = .ok false μ1; rw [q]; rfl
  | err x μ1 => rfl
  | bad => rfl
theorem tst_or {ea ec : E} {ρ : Ev} {μ : Sto} : tst (evE T b (.or ea ec) ρ μ) = (tst (evE T b ea ρ μ)).bind fun k μ1 => if k = true then .ok true μ1 else tst (evE T b ec ρ μ1) := by
  show tst ((evE T b ea ρ μ).bind fun d μ1 => match truD μ1 d.1 with | some false => evE T b ec ρ μ1 | some true => .ok (d.1, 0) μ1 | none => .bad) = _
  cases evE T b ea ρ μ with
  | ok d μ1 =>
    show tst (match truD μ1 d.1 with | some false => evE T b ec ρ μ1 | some true => .ok (d.1, 0) μ1 | none => .bad) = (okR (truD μ1 d.1) μ1).bind _
    cases q : truD μ1 d.1 with
    | none => rfl
    | some k =>
      cases k with
      | false => rfl
      | true => show okR (truD μ1 d.1) μ1 = .ok true μ1; rw [q]; rfl
  | err x μ1 => rfl
  | bad => rfl
theorem tst_not {ea : E} {ρ : Ev} {μ : Sto} : tst (evE T b (.not ea) ρ μ) = (tst (evE T b ea ρ μ)).bind fun k μ1 => .ok (!k) μ1 := by
  show tst ((evE T b ea ρ μ).bind fun d μ1 => sh ((truD μ1 d.1).map fun k => .bl !k) μ1) = _
  cases evE T b ea ρ μ with
  | ok d μ1 =>
    show tst (sh ((truD μ1 d.1).map fun k => .bl !k) μ1) = (okR (truD μ1 d.1) μ1).bind _
    cases truD μ1 d.1 with
    | none => rfl
    | some k => rfl
  | err x μ1 => rfl
  | bad => rfl
theorem tst_ife {et ea ec : E} {ρ : Ev} {μ : Sto} : tst (evE T b (.ife et ea ec) ρ μ) = (tst (evE T b et ρ μ)).bind fun k μ1 => if k = true then tst (evE T b ea ρ μ1) else tst (evE T b ec ρ μ1) := by
  show tst ((evE T b et ρ μ).bind fun d μ1 => match truD μ1 d.1 with | some true => evE T b ea ρ μ1 | some false => evE T b ec ρ μ1 | none => .bad) = _
  cases evE T b et ρ μ with
  | ok d μ1 =>
    show tst (match truD μ1 d.1 with | some true => evE T b ea ρ μ1 | some false => evE T b ec ρ μ1 | none => .bad) = (okR (truD μ1 d.1) μ1).bind _
    cases truD μ1 d.1 with
    | none => rfl
    | some k => cases k <;> rfl
  | err x μ1 => rfl
  | bad => rfl
theorem bindTest {S : AP_} {B : Nat → Prop} {m : List Addr} {H : Hp} {σ : L2.St} {r : R Bool} {f : Bool → Sto → R Bool} {Q Q1 : Bool → Hp → Prop} (h : PostT G S B W m H σ Q (r.bind f))
    (k : ∀ (c : Bool) (μ1 : Sto) (H1 : Hp) (m1 : List Addr), r = .ok c μ1 → Evo m H m1 H1 → Rep G S B m1 μ1 H1 → PostT G S B W m1 H1 σ Q (f c μ1) → Q1 c H1) : PostT G S B W m H σ Q1 r := by
  cases r with
  | ok d μ1 => exact fun H1 m1 e R => k d μ1 H1 m1 rfl e R (PostT.shift e h)
  | err x μ' => exact h
  | bad => exact h
theorem PostT.now {S : AP_} {B : Nat → Prop} {m : List Addr} {μ : Sto} {H : Hp} {σ : L2.St} {k : Bool} {Q : Bool → Hp → Prop} (h : PostT G S B W m H σ Q (.ok k μ)) (R : Rep G S B m μ H) : Q k H := h H m (Evo.refl m H) R
theorem w_and {a c : Expr} {rest : List Expr} {ea ec : E} {pos : Pos} (ha : PT X a (tT G T b W ea)) (hc : PW X (.BoolOp .And (c :: rest) pos) (tT G T b W ec)) : PW X (.BoolOp .And (a :: c :: rest) pos) (tT G T b W (.and ea ec)) := by
  have h := pw_and ha hc
  refine ⟨fun wh pins s σ H Q I ⟨S, B, m, μ, ρ, hB, R, VV, P⟩ => h.run wh pins s σ H Q I ⟨S, B, m, μ, ρ, hB, R, VV, ?_⟩⟩
  rw [tst_and] at P
  refine bindTest P fun k μ1 H1 m1 _ e1 R1 P1 => ?_
  cases k with
  | true => exact iteT ⟨S, B, m1, μ1, ρ, hB, R1, VV.evo e1, by simpa using P1⟩
  | false => exact iteF (PostT.now (by simpa using P1) R1)
theorem w_or {a c : Expr} {rest : List Expr} {ea ec : E} {pos : Pos} (ha : PT X a (tT G T b W ea)) (hc : PW X (.BoolOp .Or (c :: rest) pos) (tT G T b W ec)) : PW X (.BoolOp .Or (a :: c :: rest) pos) (tT G T b W (.or ea ec)) := by
  have h := pw_or ha hc
  refine ⟨fun wh pins s σ H Q I ⟨S, B, m, μ, ρ, hB, R, VV, P⟩ => h.run wh pins s σ H Q I ⟨S, B, m, μ, ρ, hB, R, VV, ?_⟩⟩
  rw [tst_or] at P
  refine bindTest P fun k μ1 H1 m1 _ e1 R1 P1 => ?_
  cases k with
  | true => exact iteT (PostT.now (by simpa using P1) R1)
  | false => exact iteF ⟨S, B, m1, μ1, ρ, hB, R1, VV.evo e1, by simpa using P1⟩
theorem t_not {a : Expr} {ea : E} {pos : Pos} (ha : PT X a (tT G T b W ea)) : PT X (.UnaryOp .Not a pos) (tT G T b W (.not ea)) := by
  refine (pt_not ha).mono fun σ H Q ⟨S, B, m, μ, ρ, hB, R, VV, P⟩ => ⟨S, B, m, μ, ρ, hB, R, VV, ?_⟩
  rw [tst_not] at P
  exact bindTest P fun k μ1 H1 m1 _ e1 R1 P1 => PostT.now P1 R1
theorem pt_ifE {t a c : Expr} {tt ta tc : L2.TT} {pos : Pos} (ht : PT X t tt) (ha : PT X a ta) (hc : PT X c tc) : PT X (.IfExp t a c pos) (fun σ H Q => tt σ H fun k H1 => if k = true then ta σ H1 Q else tc σ H1 Q) := by
  refine ⟨fun pins s σ H Q I h => ?_⟩
  show wpAny (model X.prog X.w) X.A (do if ← isTrue t X.env (eval t X.env) then isTrue a X.env (eval a X.env) else isTrue c X.env (eval c X.env)) _ _ s
  refine wpAny_bind (thn (ht.run pins s σ H _ I h) fun k s1 ⟨H1, I1, q1⟩ => ?_)
  cases k with
  | true => exact ha.run pins s1 σ H1 Q I1 q1
  | false => exact hc.run pins s1 σ H1 Q I1 q1
theorem t_ife {t a c : Expr} {et ea ec : E} {pos : Pos} (ht : PT X t (tT G T b W et)) (ha : PT X a (tT G T b W ea)) (hc : PT X c (tT G T b W ec)) : PT X (.IfExp t a c pos) (tT G T b W (.ife et ea ec)) := by
  refine (pt_ifE ht ha hc).mono fun σ H Q ⟨S, B, m, μ, ρ, hB, R, VV, P⟩ => ⟨S, B, m, μ, ρ, hB, R, VV, ?_⟩
  rw [tst_ife] at P
  refine bindTest P fun k μ1 H1 m1 _ e1 R1 P1 => ?_
  cases k with
  | true => exact iteT ⟨S, B, m1, μ1, ρ, hB, R1, VV.evo e1, by simpa using P1⟩
  | false => exact iteF ⟨S, B, m1, μ1, ρ, hB, R1, VV.evo e1, by simpa using P1⟩

/-! what is walked -/
theorem src_at (hK : X.K = G.K) {S : AP_} {B : Nat → Prop} {m : List Addr} {μ : Sto} {H : Hp} {v : V} {d : D} {s : Src} (R : Rep G S B m μ H) (r : RV G (av S m) m H v d) (h : srcL μ d = some s) : ∃ a vs, v = .ref a ∧ SqL X.K H a vs ∧ LR G S m H s a := by
  cases r with
  | lst h1 n1 t1 => cases h; exact ⟨_, _, rfl, .inl h1, .data h1 n1 t1⟩
  | scr h1 => cases h; exact ⟨_, _, rfl, by rw [hK]; exact h1.elim (fun z => .inl z.1) .inr, .scr h1⟩
  | @cell l a hm =>
    have h' : (match μ[l]? with | some (C.lst _) => some (Src.cell l) | _ => none) = some s := h
    split at h'
    · rename_i q
      cases h'
      obtain ⟨vs, e, _⟩ := R.at_ l a _ hm q
      exact ⟨a, vs, rfl, .inl (.inl e), .cell hm⟩
    · cases h'
  | _ => cases h
theorem PI.or {tg e : Expr} {t1 t2 : L2.TI} (h1 : PI X tg e t1) (h2 : PI X tg e t2) : PI X tg e (fun σ H Q => t1 σ H Q ∨ t2 σ H Q) := ⟨fun pins s σ H Q I q => q.elim (h1.run pins s σ H Q I) (h2.run pins s σ H Q I)⟩
theorem i_ex (hK : X.K = G.K) {tg e : Expr} {ir : E} (h : PE X e (tE G T b W ir)) : PI X tg e (tI X.K G T b W (.ex ir)) := by
  refine (PI.or (pi_list h) (pi_tup h)).mono fun σ H Q ⟨S, B, m, μ, ρ, hB, R, VV, P⟩ => ?_
  have P : PostI X.K G S B W m H σ Q ((evE T b ir ρ μ).bind fun d μ1 => okR (match d.1 with | .tup xs => some (.data xs) | d => srcL μ1 d) μ1) := P
  have isl : (∀ d μ1, evE T b ir ρ μ = .ok d μ1 → ∀ xs, d.1 ≠ .tup xs) → iList X.K (tE G T b W ir) σ H Q := by
    intro hn
    refine ⟨S, B, m, μ, ρ, hB, R, VV, ?_⟩
    refine bindI P fun d μ1 v H1 m1 q e1 R1 r1 P1 => ?_
    have P1 : PostI X.K G S B W m1 H1 σ Q (okR (srcL μ1 d.1) μ1) := by
      have := hn d μ1 q
      obtain ⟨d, f⟩ := d
      cases d <;> first | exact P1 | exact absurd rfl (this _)
    cases hs : srcL μ1 d.1 with
    | none => rw [hs] at P1; exact False.elim P1
    | some s =>
      rw [hs] at P1
      obtain ⟨a, vs, rfl, hr, l⟩ := src_at hK R1 r1 hs
      exact ⟨a, rfl, ⟨vs, hr⟩, P1 _ H1 m1 (Evo.refl m1 H1) R1 (.lst l)⟩
  cases q : evE T b ir ρ μ with
  | ok d μ1 =>
    obtain ⟨d, f⟩ := d
    by_cases hd : ∃ xs, d = .tup xs
    · obtain ⟨xs, rfl⟩ := hd
      right
      refine ⟨S, B, m, μ, ρ, hB, R, VV, ?_⟩
      refine bindI P fun d' μ1' v H1 m1 q' e1 R1 r1 P1 => ?_
      rw [q] at q'
      cases q'
      have P1 : PostI X.K G S B W m1 H1 σ Q (.ok (.data xs) μ1) := P1
      cases r1 with
      | tup h1 n1 t1 => exact ⟨_, rfl, ⟨_, .of h1⟩, P1 _ H1 m1 (Evo.refl m1 H1) R1 (.tup h1 n1 t1)⟩
    · left
      refine isl fun d' μ1' q' xs e => hd ⟨xs, ?_⟩
      rw [q] at q'; cases q'; exact e
  | err x μ1 => exact .inl (isl fun d μ1 q' => by rw [q] at q'; cases q')
  | bad => exact .inl (isl fun d μ1 q' => by rw [q] at q'; cases q')
theorem i_rng1 {tg a : Expr} {ea : E} {p pos : Pos} (hg : Gl X "range") (hm : X.mg "range" = none) (hs : isStar a = false) (ha : PE X a (tE G T b W ea)) : PI X tg (.Call (.Name "range" p) [a] [] pos) (tI X.K G T b W (.rng1 ea)) := by
  refine (pi_range1 hg hm (pa_cons ha pa_nil (star_cons hs)) (star_cons hs)).mono fun σ H Q ⟨S, B, m, μ, ρ, hB, R, VV, P⟩ => ⟨S, B, m, μ, ρ, hB, R, VV, ?_⟩
  refine bindI P fun d μ1 v H1 m1 _ e1 R1 r1 P1 => ?_
  obtain ⟨d, f⟩ := d
  cases r1 with
  | int j =>
    have P1 : PostI X.K G S B W m1 H1 σ Q (if smallI j = true then .ok (.data (rangeD 0 j.toNat)) μ1 else .bad) := P1
    obtain ⟨hz, P1⟩ := ifR P1 id
    unfold smallI at hz
    simp only [Bool.and_eq_true, decide_eq_true_eq] at hz
    exact ⟨j, rfl, hz.1, hz.2, P1 _ H1 m1 (Evo.refl m1 H1) R1 (.rng _ _)⟩
  | _ => exact False.elim P1
theorem i_rng2 {tg a c : Expr} {ea ec : E} {p pos : Pos} (hg : Gl X "range") (hm : X.mg "range" = none) (hs : isStar a = false) (hs2 : isStar c = false) (ha : PE X a (tE G T b W ea)) (hc : PE X c (tE G T b W ec)) : PI X tg (.Call (.Name "range" p) [a, c] [] pos) (tI X.K G T b W (.rng2 ea ec)) := by
  refine (pi_range2 hg hm (pa_cons ha (pa_cons hc pa_nil (star_cons hs2)) (star_cons hs)) ((star_cons hs).trans (congrArg _ (star_cons hs2))) (star_cons hs2)).mono fun σ H Q ⟨S, B, m, μ, ρ, hB, R, VV, P⟩ => ⟨S, B, m, μ, ρ, hB, R, VV, ?_⟩
  refine bindI P fun d μ1 v H1 m1 _ e1 R1 r1 P1 => ⟨S, B, m1, μ1, ρ, hB, R1, VV.evo e1, ?_⟩
  refine bindI P1 fun d2 μ2 v2 H2 m2 _ e2 R2 r2 P2 => ?_
  obtain ⟨d, f⟩ := d
  obtain ⟨d2, f2⟩ := d2
  cases r1 with
  | int i =>
    cases r2 with
    | int j =>
      have P2 : PostI X.K G S B W m2 H2 σ Q (if (smallI i && smallI j) = true then .ok (.data (rangeD i (j - i).toNat)) μ2 else .bad) := P2
      obtain ⟨hz, P2⟩ := ifR P2 id
      unfold smallI at hz
      simp only [Bool.and_eq_true, decide_eq_true_eq] at hz
      exact ⟨i, j, rfl, ⟨hz.1.1, hz.1.2, hz.2.1, hz.2.2⟩, P2 _ H2 m2 (Evo.refl m2 H2) R2 (.rng _ _)⟩
    | _ => exact False.elim P2
  | _ => exact False.elim P2
theorem i_zip (hK : X.K = G.K) {es : List Expr} {k : Nat} {tp : Pos} {a c : Expr} {ea ec : E} {p pos : Pos} (hg : Gl X "zip") (hm : X.mg "zip" = none) (hs : isStar a = false) (hs2 : isStar c = false) (ha : PE X a (tE G T b W ea)) (hc : PE X c (tE G T b W ec)) : PI X (.Tuple es k tp) (.Call (.Name "zip" p) [a, c] [] pos) (tI X.K G T b W (.zip ea ec)) := by
  refine (pi_zip hg hm (pa_cons ha (pa_cons hc pa_nil (star_cons hs2)) (star_cons hs)) (star_cons hs) (star_any (by simp [hs2]))).mono fun σ H Q ⟨S, B, m, μ, ρ, hB, R, VV, P⟩ => ⟨S, B, m, μ, ρ, hB, R, VV, ?_⟩
  refine bindI P fun d μ1 v H1 m1 _ e1 R1 r1 P1 => ⟨S, B, m1, μ1, ρ, hB, R1, VV.evo e1, ?_⟩
  refine bindI P1 fun d2 μ2 v2 H2 m2 _ e2 R2 r2 P2 => ?_
  have P2 : PostI X.K G S B W m2 H2 σ Q (match srcL μ2 d.1, srcL μ2 d2.1 with | some x, some y => .ok (.zip x y) μ2 | _, _ => .bad) := P2
  split at P2
  · rename_i x y h1 h2
    obtain ⟨a, vs, rfl, hr, l⟩ := src_at hK R2 (r1.evo e2) h1
    obtain ⟨c, ws, rfl, hr2, l2⟩ := src_at hK R2 r2 h2
    exact ⟨a, c, vs, ws, rfl, hr, hr2, P2 _ H2 m2 (Evo.refl m2 H2) R2 (.zip l l2)⟩
  · exact False.elim P2
theorem i_enum (hK : X.K = G.K) {es : List Expr} {k : Nat} {tp : Pos} {a : Expr} {ea : E} {p pos : Pos} (hg : Gl X "enumerate") (hm : X.mg "enumerate" = none) (hs : isStar a = false) (ha : PE X a (tE G T b W ea)) : PI X (.Tuple es k tp) (.Call (.Name "enumerate" p) [a] [] pos) (tI X.K G T b W (.enum ea)) := by
  refine (pi_enum hg hm (pa_cons ha pa_nil (star_cons hs)) (star_cons hs)).mono fun σ H Q ⟨S, B, m, μ, ρ, hB, R, VV, P⟩ => ⟨S, B, m, μ, ρ, hB, R, VV, ?_⟩
  refine bindI P fun d μ1 v H1 m1 _ e1 R1 r1 P1 => ?_
  have P1 : PostI X.K G S B W m1 H1 σ Q (okR ((srcL μ1 d.1).map .enum) μ1) := P1
  cases h : srcL μ1 d.1 with
  | none => rw [h] at P1; exact False.elim P1
  | some s =>
    rw [h] at P1
    obtain ⟨a, vs, rfl, hr, l⟩ := src_at hK R1 r1 h
    exact ⟨a, vs, rfl, hr, P1 _ H1 m1 (Evo.refl m1 H1) R1 (.enum l)⟩
end
end VM

set_option Elab.async false
set_option maxRecDepth 100000
set_option autoImplicit false
set_option linter.unusedVariables false
/-! comprehensions -/
namespace VM
open PySem PySem.Spec PyProof.Rows L2
abbrev W0 : L2.WX := fun _ _ _ _ => False
abbrev shd (S : AP_) (p : Addr) : AP_ := fun a => S a ∨ a = p
section
variable {X : Cx} {G : Gb} {Tx : Tr} {T : Tb} {b : Nat} {W : L2.WX}
variable {S : AP_} {B : Nat → Prop} {m m' : List Addr} {μ : Sto} {H H' : Hp}
theorem hk_new {p : Addr} {o : HO} (hp : H p = none) : ∀ (a : Addr) (u : HO), H a = some u → ¬ av S m a → upd H p o a = some u ∧ ¬ av (shd S p) m a := fun a u e n =>
  ⟨same_new hp _ _ e, fun z => z.elim (fun z => z.elim (fun z => n (.inl z)) (ne_of_none e hp)) fun z => n (.inr z)⟩
theorem hk_shd {p : Addr} {o : HO} : ∀ (a : Addr) (u : HO), H a = some u → ¬ av (shd S p) m a → upd H p o a = some u ∧ ¬ av (shd S p) m a := fun a u e n =>
  ⟨by rw [upd_ne fun z => n (.inl (.inr z))]; exact e, n⟩
theorem hk_un {p : Addr} : ∀ (a : Addr) (u : HO), H a = some u → ¬ av (shd S p) m a → H a = some u ∧ ¬ av S m a := fun a u e n => ⟨e, fun z => z.elim (fun z => n (.inl (.inl z))) fun z => n (.inr z)⟩
theorem hk_x {p : Addr} : ∀ (a : Addr) (u : HO), H a = some u → ¬ av (shd S p) m a → H a = some u ∧ ¬ avx S m p a := fun a u e n =>
  ⟨e, fun z => z.elim (fun z => z.elim (fun z => n (.inl (.inl z))) fun z => n (.inr z)) fun z => n (.inl (.inr z))⟩
theorem Rep.shield (R : Rep G S B m μ H) {p : Addr} {o : HO} (hp : H p = none) : Rep G (shd S p) B m μ (upd H p o) :=
  ⟨R.len, R.nd, fun l a c h1 h2 => (R.at_ l a c h1 h2).imp (fun _ _ e => e) (hk_new hp) fun _ e => same_new hp _ _ e, R.lev, fun a z => by
    rcases z with z | rfl
    · obtain ⟨⟨u, e⟩, n⟩ := R.trk a z
      exact ⟨⟨u, same_new hp _ _ e⟩, n⟩
    · exact ⟨⟨o, upd_same⟩, fun z => av_new R hp (.inr z)⟩⟩
theorem Rep.atS {p : Addr} {o : HO} (R : Rep G (shd S p) B m μ H) : Rep G (shd S p) B m μ (upd H p o) := by
  have hp := (R.trk p (.inr rfl)).2
  refine ⟨R.len, R.nd, fun l a c h1 h2 => (R.at_ l a c h1 h2).imp (fun _ _ e => e) hk_shd fun u e => ?_, R.lev, fun a z => ?_⟩
  · rw [upd_ne fun z => hp (by rw [← z]; exact List.mem_of_getElem? h1)]; exact e
  · obtain ⟨⟨u, e⟩, n⟩ := R.trk a z
    by_cases h : a = p
    · subst h; exact ⟨⟨o, upd_same⟩, n⟩
    · exact ⟨⟨u, by rw [upd_ne h]; exact e⟩, n⟩
theorem Rep.unshield {p : Addr} (R : Rep G (shd S p) B m μ H) : Rep G S B m μ H :=
  ⟨R.len, R.nd, fun l a c h1 h2 => (R.at_ l a c h1 h2).imp (fun _ _ e => e) hk_un fun _ e => e, R.lev, fun a z => R.trk a (.inl z)⟩
theorem Evo.updNew {H1 : Hp} {m1 : List Addr} {p : Addr} {o : HO} (e : Evo m1 H1 m H) (hp : H1 p = none) : Evo m1 H1 m (upd H p o) :=
  ⟨e.ext, fun a u h n => ⟨by rw [upd_ne (ne_of_none h hp)]; exact (e.keep a u h n).1, (e.keep a u h n).2⟩, fun a u h => by
    obtain ⟨u', h'⟩ := e.dom a u h
    exact ⟨u', by rw [upd_ne (ne_of_none h hp)]; exact h'⟩⟩
theorem wipe_sub {us : List Nat} : ∀ {vs : List Nat} {σ : L2.St}, (∀ v ∈ vs, v ∈ us) → wipe (wipe σ vs) us = wipe σ us
  | [], _, _ => rfl
  | v :: vs, σ, h => by
    show wipe ((wipe σ vs).set v none) us = _
    rw [wipe_set_in (h v List.mem_cons_self)]
    exact wipe_sub fun w hw => h w (List.mem_cons_of_mem _ hw)
theorem bindIE {K : PySem.W.Frag} {σ : L2.St} {r : R Src} {f : Src → Sto → R (D × Nat)} {Q : VK} {Q1 : L2.It → Hp → Prop} (h : PostE G S B W m H σ Q (r.bind f))
    (k : ∀ (s : Src) (μ1 : Sto) (J : L2.It) (H1 : Hp) (m1 : List Addr), r = .ok s μ1 → Evo m H m1 H1 → Rep G S B m1 μ1 H1 → SR K G S m1 H1 s J → PostE G S B W m1 H1 σ Q (f s μ1) → Q1 J H1) : PostI K G S B W m H σ Q1 r := by
  cases r with
  | ok s μ1 => exact fun J H1 m1 e R sr => k s μ1 J H1 m1 rfl e R sr (PostE.shift e h)
  | err x μ1 => exact h
  | bad => exact h
theorem noErr_ok {α : Type} {r : R α} {a : α} {μ : Sto} (h : noErr r = .ok a μ) : r = .ok a μ := by
  cases r with
  | ok x μ1 => exact h
  | err x μ1 => cases h
  | bad => cases h
theorem noErr_cases {α : Type} (r : R α) : noErr r = .bad ∨ ∃ a μ, r = .ok a μ := by
  cases r with
  | ok x μ1 => exact .inr ⟨x, μ1, rfl⟩
  | err x μ1 => exact .inl rfl
  | bad => exact .inl rfl
/-- the element of a comprehension -/
def lcF (T : Tb) (b : Nat) (ee : E) (tg : Tg) (ce : E) (own : List Nat) (ρ : Ev) (x : D) (μ : Sto) : R (Option D) := match bindL 3 tg x (wipeD ρ own) with
  | none => .bad
  | some ρ1 => (evE T b ce ρ1 μ).bind fun k μ1 => match truD μ1 k.1 with
    | some true => (evE T b ee ρ1 μ1).bind fun y μ2 => .ok (some y.1) μ2
    | some false => .ok none μ1
    | none => .bad
theorem evE_lc {ee ce : E} {tg : Tg} {it : It} {own : List Nat} {ρ : Ev} {μ : Sto} : evE T b (.lc ee tg it ce own) ρ μ = (evIt T b it ρ μ).bind fun src μ1 => (noErr (lcLoop (lcF T b ee tg ce own ρ) src (src.size μ1 + 1) 0 [] μ1)).bind fun xs μ2 => .ok (.lst xs, 1) μ2 := rfl
theorem lc_imp {K : PySem.W.Frag} (hK : K = G.K) {ee ce : E} {tg' : Tg} {it' : It} {vs : List Nat} (hin : tgIn vs tg' = true) {σ : L2.St} {H : Hp} {Q : VK} (hh : tE G T b W (.lc ee tg' it' ce vs) σ H Q) :
    tLc (tI K G T b W it') (tgG K tg') (tT G T b W0 ce) (tE G T b W0 ee) vs σ H Q := by
  subst hK
  obtain ⟨S, B, m, μ, ρ, hB, R, VV, P⟩ := hh
  refine ⟨S, B, m, μ, ρ, hB, R, VV, ?_⟩
  rw [evE_lc] at P
  refine bindIE P fun src μ1 J H1 m1 _ e1 R1 sr P1 => ?_
  rcases noErr_cases (lcLoop (lcF T b ee tg' ce (vs) ρ) src (src.size μ1 + 1) 0 [] μ1) with hbad | ⟨xs, μ2, hloop⟩
  · have P1 : PostE G S B W m1 H1 σ Q ((noErr (lcLoop (lcF T b ee tg' ce (vs) ρ) src (src.size μ1 + 1) 0 [] μ1)).bind fun xs μ2 => .ok (.lst xs, 1) μ2) := P1
    rw [hbad] at P1; exact False.elim P1
  have P1 : PostE G S B W m1 H1 σ Q ((noErr (lcLoop (lcF T b ee tg' ce (vs) ρ) src (src.size μ1 + 1) 0 [] μ1)).bind fun xs μ2 => .ok (.lst xs, 1) μ2) := P1
  rw [hloop] at P1
  have P1 : PostE G S B W m1 H1 σ Q (.ok (.lst xs, 1) μ2) := P1
  intro D hD
  have nSD : ¬ S D := fun z => by
    obtain ⟨⟨u, e⟩, _⟩ := R1.trk D z
    rw [hD] at e; cases e
  refine ⟨fun i k H' => ∃ m' μ' acc accv, lcLoop (lcF T b ee tg' ce (vs) ρ) src k i acc μ' = .ok xs μ2 ∧ Evo m1 H1 m' H' ∧ Rep G (shd S D) B m' μ' H' ∧ EnvR G (av (shd S D) m') m' H' σ ρ ∧ SR G.K G (shd S D) m' H' src J ∧ H' D = some (.lst accv) ∧ RVs G (av (shd S D) m') m' H' accv acc,
    ⟨src.size μ1 + 1, m1, μ1, [], [], hloop, Evo.grow (same_new hD), R1.shield hD, (VV.evo e1).imp fun _ _ r => r.imp (fun _ _ e => e) (hk_new hD), sr.imp (fun _ _ e => e) (hk_new hD), upd_same, .nil⟩, ?_⟩
  rintro i k H' ⟨m', μ', acc, accv, hl, E1, R', V', sr', hD', t'⟩
  cases k with
  | zero => cases hl
  | succ k =>
    have hl : (match src.at μ' i with
      | .bad => .bad
      | .done => .ok acc μ'
      | .item x => (lcF T b ee tg' ce (vs) ρ x μ').bind fun y μ1 => match y with
        | none => lcLoop (lcF T b ee tg' ce (vs) ρ) src k (i + 1) acc μ1
        | some d => if acc.length < sizeLine then lcLoop (lcF T b ee tg' ce (vs) ρ) src k (i + 1) (acc ++ [d]) μ1 else .bad) = VM.R.ok xs μ2 := hl
    rcases sr'.turn R' i with h | ⟨h, hst⟩ | ⟨d, h, hgo, hy⟩
    · rw [h] at hl; cases hl
    · rw [h] at hl
      cases hl
      refine .inl ⟨hst, ?_⟩
      have nD : ¬ av S m' D := fun z => z.elim nSD (R'.trk D (.inr rfl)).2
      refine P1 (.ref D) H' m' E1 R'.unshield (.lst (.inl hD') nD (t'.imp (fun _ _ e => e) hk_un)) (.inr ⟨D, accv, xs, rfl, rfl, hD, hD', t'.imp (fun _ _ e => e) hk_x, fun l a c h1 h2 => ?_⟩)
      exact (R'.at_ l a c h1 h2).imp (fun _ _ e => e) hk_x fun _ e => e
    · rw [h] at hl
      refine .inr ⟨hgo, _, fun H'' hw => ⟨k, Nat.lt_succ_self k, hw⟩, fun x H'' y => ?_⟩
      obtain ⟨sm, rx⟩ := hy x H'' y
      obtain ⟨yo, μ3, hF, hl⟩ := bind_ok hl
      unfold lcF at hF
      cases hb : bindL 3 tg' d (wipeD ρ (vs)) with
      | none => rw [hb] at hF; cases hF
      | some ρ1 =>
        rw [hb] at hF
        have EG := Evo.grow (m := m') sm
        refine bind_at 3 tg' d x _ _ ρ1 hb hin rx ((V'.evo EG).wipe _) fun σ1 E2 w1 => ⟨w1.trans (wipe_sub fun _ h => h), ?_⟩
        obtain ⟨kk, μa, hca, hF⟩ := bind_ok hF
        refine ⟨shd S D, B, m', μ', ρ1, hB, R'.grow sm, E2, ?_⟩
        have step : ∀ c, truD μa kk.1 = some c → PostT G (shd S D) B W0 m' H'' σ1 (fun bb H3 => if bb = true then tE G T b W0 ee σ1 H3 fun y H4 => ∃ acc, H4 D = some (.lst acc) ∧ acc.length < sizeLine ∧ ∃ m' μ' acc' accv, lcLoop (lcF T b ee tg' ce (vs) ρ) src k (i + 1) acc' μ' = .ok xs μ2 ∧ Evo m1 H1 m' (upd H4 D (.lst (acc ++ [y]))) ∧ Rep G (shd S D) B m' μ' (upd H4 D (.lst (acc ++ [y]))) ∧ EnvR G (av (shd S D) m') m' (upd H4 D (.lst (acc ++ [y]))) σ ρ ∧ SR G.K G (shd S D) m' (upd H4 D (.lst (acc ++ [y]))) src J ∧ (upd H4 D (.lst (acc ++ [y]))) D = some (.lst accv) ∧ RVs G (av (shd S D) m') m' (upd H4 D (.lst (acc ++ [y]))) accv acc'
            else ∃ m' μ' acc' accv, lcLoop (lcF T b ee tg' ce (vs) ρ) src k (i + 1) acc' μ' = .ok xs μ2 ∧ Evo m1 H1 m' H3 ∧ Rep G (shd S D) B m' μ' H3 ∧ EnvR G (av (shd S D) m') m' H3 σ ρ ∧ SR G.K G (shd S D) m' H3 src J ∧ H3 D = some (.lst accv) ∧ RVs G (av (shd S D) m') m' H3 accv acc') (.ok c μa) := by
          intro c hc2 H3 m3 e3 R3
          rw [hc2] at hF
          have nD' : D ∉ m' := (R'.trk D (.inr rfl)).2
          have hD3 : H3 D = some (.lst accv) := (e3.keep D _ (sm _ _ hD') nD').1
          have nD3 : D ∉ m3 := (e3.keep D _ (sm _ _ hD') nD').2
          have E3 := EG.trans e3
          cases c with
          | false =>
            cases hF
            exact iteF ⟨m3, μ3, acc, accv, hl, E1.trans E3, R3, V'.evo E3, sr'.imp (fun _ _ => E3.at) (evo_hk E3), hD3, t'.evo E3⟩
          | true =>
            obtain ⟨y, μb, hee, hF⟩ := bind_ok hF
            cases hF
            obtain ⟨hlen, hl⟩ : acc.length < sizeLine ∧ lcLoop (lcF T b ee tg' ce (vs) ρ) src k (i + 1) (acc ++ [y.1]) μ3 = .ok xs μ2 := by
              by_cases hz : acc.length < sizeLine
              · have hl : (if acc.length < sizeLine then lcLoop (lcF T b ee tg' ce (vs) ρ) src k (i + 1) (acc ++ [y.1]) μ3 else .bad) = VM.R.ok xs μ2 := hl
                rw [if_pos hz] at hl; exact ⟨hz, hl⟩
              · have hl : (if acc.length < sizeLine then lcLoop (lcF T b ee tg' ce (vs) ρ) src k (i + 1) (acc ++ [y.1]) μ3 else .bad) = VM.R.ok xs μ2 := hl
                rw [if_neg hz] at hl; cases hl
            refine iteT ⟨shd S D, B, m3, μa, ρ1, hB, R3, (E2.evo e3), ?_⟩
            rw [hee]
            intro v H4 m4 e4 R4 r4 _
            have E4 := E3.trans e4
            have hD4 : H4 D = some (.lst accv) := (e4.keep D _ hD3 nD3).1
            have sh4 : ∀ (a : Addr) (u : HO), H4 a = some u → ¬ av (shd S D) m4 a → upd H4 D (.lst (accv ++ [v])) a = some u ∧ ¬ av (shd S D) m4 a := hk_shd
            refine ⟨accv, hD4, by rw [t'.length]; exact hlen, m4, μ3, acc ++ [y.1], accv ++ [v], hl, (E1.trans E4).updNew hD, R4.atS, (V'.evo E4).imp fun _ _ r => r.imp (fun _ _ e => e) sh4, (sr'.imp (fun _ _ => E4.at) (evo_hk E4)).imp (fun _ _ e => e) sh4, upd_same, ?_⟩
            exact ((t'.evo E4).append (.cons r4 .nil)).imp (fun _ _ e => e) sh4
        rw [show tst (evE T b ce ρ1 μ') = okR (truD μa kk.1) μa by rw [hca]; rfl]
        cases hq : truD μa kk.1 with
        | none => rw [hq] at hF; cases hF
        | some c => exact step c hq
theorem r_lc {elt tg iter : Expr} {ifs : List Expr} {scope : Scope} {own : List (Str × Nat)} {pos : Pos} {ee ce : E} {tg' : Tg} {it' : It} (hK : X.K = G.K) (hc : X.calm = true) (hN : X.N.Nodup) (hi : PI X tg iter (tI X.K G T b W it')) (ok : BlkOk X.N X.env.scope scope own)
    (hin : tgIn (own.map (·.2)) tg' = true)
    (hg : ∀ (s : Shared) (H : Hp) (C : Addr) (cl : List (Str × Addr)) (fp : List Addr), PG (X.blk s H scope (compEnvC scope cl C X.env) fp) tg (tgG X.K tg'))
    (ht : ∀ (s : Shared) (H : Hp) (C : Addr) (cl : List (Str × Addr)) (fp : List Addr), PTs (X.blk s H scope (compEnvC scope cl C X.env) fp) ifs (tT G T b W0 ce))
    (he : ∀ (s : Shared) (H : Hp) (C : Addr) (cl : List (Str × Addr)) (fp : List Addr), PE (X.blk s H scope (compEnvC scope cl C X.env) fp) elt (tE G T b W0 ee)) (hs : ∀ x, foldedSetIterable iter X.env x = pure x) :
    PE X (.ListComp elt [⟨tg, iter, ifs, 0⟩] scope pos) (tE G T b W (.lc ee tg' it' ce (own.map (·.2)))) := by
  exact (pe_lc hc hN hi ok hg ht he hs).mono fun σ H Q h => lc_imp hK hin h
end
end VM

set_option Elab.async false
set_option maxRecDepth 100000
set_option autoImplicit false
set_option linter.unusedVariables false
/-! every expression -/
namespace VM
open PySem PySem.Spec PyProof.Rows L2
section
variable {X : Cx} {G : Gb} {Tx : Tr} {T : Tb} {b : Nat} {W : L2.WX}
theorem asg_cons {e : Expr} {es : List Expr} {env : Env} (h : isStar e = false) : (assignEach (e :: es) env) = (false, assign e env) :: assignEach es env := by
  cases e <;> first | rfl | cases h
theorem asg_len {env : Env} : ∀ {es : List Expr}, es.any isStar = false → (assignEach es env).length = es.length ∧ (assignEach es env).findIdx? (·.1) = none
  | [], _ => ⟨rfl, rfl⟩
  | e :: es, h => by
    rw [List.any_cons, Bool.or_eq_false_iff] at h
    rw [asg_cons h.1]
    obtain ⟨h1, h2⟩ := asg_len (env := env) h.2
    refine ⟨by simp [h1], ?_⟩
    rw [List.findIdx?_cons]
    simp [h2]
theorem tgs_len (f : Expr → Tg) : ∀ es : List Expr, tgsLen (tgsOf (es.map f)) = es.length
  | [] => rfl
  | e :: es => by simp [tgsOf, tgsLen, tgs_len f es]
theorem pgs_all {K : PySem.W.Frag} {f : Expr → Tg} : ∀ {es : List Expr}, es.any isStar = false → (∀ e ∈ es, PG X e (tgG K (f e))) → PGs X es (tgsG K (tgsOf (es.map f)))
  | [], _, _ => pgs_nil
  | e :: es, hs, h => by
    rw [List.any_cons, Bool.or_eq_false_iff] at hs
    exact pgs_cons (h e List.mem_cons_self) (pgs_all hs.2 fun x hx => h x (List.mem_cons_of_mem _ hx)) (by rw [asg_cons hs.1]; rfl)
theorem pg_bad {e : Expr} : PG X e (tgG X.K .bad) := ⟨fun _ _ _ _ _ _ _ _ _ h => False.elim h⟩
theorem tgsIn_all {own : List Nat} {f : Expr → Tg} : ∀ {es : List Expr}, tgsIn own (tgsOf (es.map f)) = true → ∀ e ∈ es, tgIn own (f e) = true
  | [], _, _, h => by cases h
  | x :: es, h, e, he => by
    have h : (tgIn own (f x) && tgsIn own (tgsOf (es.map f))) = true := h
    rw [Bool.and_eq_true] at h
    rcases List.mem_cons.mp he with rfl | he
    · exact h.1
    · exact tgsIn_all h.2 e he
theorem gN (calm : X.calm = true) (nd : X.N.Nodup) (eqN : X.N = Tx.N) (own : Option (List Nat)) (hf : ∀ x i, slotOf Tx.N x = some i → (∀ l, own = some l → i ∈ l) → X.fn x = true ∨ X.env.scope.names.lookup x = some .local) :
    ∀ (n : Nat) (e : Expr), (∀ l, own = some l → tgIn l (trN Tx n X.env.scope.names e) = true) → PG X e (tgG X.K (trN Tx n X.env.scope.names e))
  | 0, e, _ => by unfold trN; exact pg_bad
  | n + 1, e, ho => by
    cases e with
    | Name x p =>
      unfold trN at ho ⊢
      dsimp only at ho ⊢
      split
      · rename_i hk
        rw [if_pos hk] at ho
        cases hs : slotOf Tx.N x with
        | none => exact pg_bad
        | some i =>
          rw [hs] at ho
          refine pg_name nd (by rw [eqN]; exact slot_at hs) ?_ (hf x i hs fun l hl => by simpa [tgIn] using ho l hl)
          rw [Bool.or_eq_true] at hk
          rcases hk with hk | hk
          · exact .inl (by simpa using hk)
          · exact .inr (by simpa using hk)
      · exact pg_bad
    | Tuple es k p =>
      unfold trN at ho ⊢
      dsimp only at ho ⊢
      split
      · exact pg_bad
      · rename_i hk
        have hk : es.any isStar = false := by simpa using hk
        rw [if_neg (by simp [hk])] at ho
        have ih : ∀ e ∈ es, PG X e (tgG X.K (trN Tx n X.env.scope.names e)) := fun e he => gN calm nd eqN own hf n e fun l hl => tgsIn_all (ho l hl) e he
        obtain ⟨h1, h2⟩ := asg_len (env := X.env) hk
        show PG X _ (gTup X.K (tgsLen (tgsOf (es.map _))) (tgsG X.K (tgsOf (es.map _))))
        refine pg_tup calm (pgs_all hk ih) ?_ h2
        rw [h1, tgs_len]
    | _ => unfold trN; exact pg_bad

theorem names_rel {scope : Scope} {cl : List (Str × Addr)} {C : Addr} (hk : X.env.scope.kind = .function) : (compEnvC scope cl C X.env).scope.names = relN scope.names X.env.scope.names := by
  show scope.names.map _ = scope.names.map _
  refine List.map_congr_left fun y _ => ?_
  obtain ⟨n, k⟩ := y
  show (if (k == .free && X.env.scope.kind == .function && X.env.kindOf n == some .cell) = true then (n, NameKind.cell) else (n, k)) = if (k == .free && X.env.scope.names.lookup n == some .cell) = true then (n, .cell) else (n, k)
  rw [hk]
  have e : ((ScopeKind.function == ScopeKind.function) : Bool) = true := by decide
  rw [e, Bool.and_true]
  rfl
theorem Good.blk (Gd : Good X G Tx T) {scope : Scope} (hk : scope.kind = .function) (s : Shared) (H : Hp) (C : Addr) (cl : List (Str × Addr)) (fp : List Addr) : Good (X.blk s H scope (compEnvC scope cl C X.env) fp) G Tx T :=
  ⟨Gd.calm, Gd.eqK, Gd.nd, Gd.eqN, Gd.hu, hk, Gd.bi, Gd.gd, Gd.gl, Gd.call⟩
theorem own_at {N : List Str} {names : Sc} {x : Str} {i : Nat} (hu : ∀ y ∈ names, names.lookup y.1 = some y.2) (hx : slotOf N x = some i) (h : i ∈ (ownOf N names).map (·.2)) : names.lookup x = some .local ∨ names.lookup x = some .cell := by
  obtain ⟨p, hp, rfl⟩ := List.mem_map.mp h
  obtain ⟨y, hy, e⟩ := List.mem_filterMap.mp hp
  have key : ∀ k, (slotOf N y.1).map (fun i => (y.1, i)) = some p → y.2 = k → names.lookup x = some k := by
    intro k e hk
    obtain ⟨j, hj, rfl⟩ := map_some e
    have h1 := slot_at hj
    have h2 := slot_at hx
    rw [h1] at h2
    cases h2
    rw [hu y hy, hk]
  split at e
  · rename_i hk; exact .inl (key _ e hk)
  · rename_i hk; exact .inr (key _ e hk)
  · cases e
theorem rel_local {names sc : Sc} {x : Str} (h : names.lookup x = some .local) : (relN names sc).lookup x = some .local := by
  induction names with
  | nil => cases h
  | cons y r ih =>
    obtain ⟨n, k⟩ := y
    unfold relN
    rw [List.map_cons]
    rw [List.lookup_cons] at h
    by_cases hx : (x == n) = true
    · rw [hx] at h
      cases h
      have : ((NameKind.local == NameKind.free && sc.lookup n == some .cell) : Bool) = false := by
        have : (NameKind.local == NameKind.free) = false := by decide
        rw [this]; rfl
      rw [if_neg (by rw [this]; exact Bool.false_ne_true), List.lookup_cons, hx]
    · have hx : (x == n) = false := by simpa using hx
      rw [hx] at h
      have := ih h
      split <;> (rw [List.lookup_cons, hx]; exact this)

structure OkN (G : Gb) (Tx : Tr) (T : Tb) (b n : Nat) : Prop where
  e : ∀ {X : Cx}, Good X G Tx T → ∀ {W : L2.WX}, Takes X W → ∀ e : Expr, PE X e (tE G T b W (trE Tx n X.env.scope.names e))
  t : ∀ {X : Cx}, Good X G Tx T → ∀ {W : L2.WX}, Takes X W → ∀ e : Expr, PT X e (tT G T b W (trE Tx n X.env.scope.names e))
  i : ∀ {X : Cx}, Good X G Tx T → ∀ {W : L2.WX}, Takes X W → ∀ tg e : Expr, PI X tg e (tI X.K G T b W (trI Tx n X.env.scope.names (isTup tg) e))
theorem i_bad {tg e : Expr} : PI X tg e (tI X.K G T b W (.ex .bad)) := ⟨fun _ _ _ _ _ _ ⟨_, _, _, _, _, _, _, _, P⟩ => False.elim P⟩
theorem blk_of {N : List Str} {sc : Sc} {S : Scope} {scope : Scope} {own : List (Str × Nat)} (hS : S.names = sc) (h : blkC N ⟨.function, sc, false, false, []⟩ scope own = true) : BlkOk N S scope own := by
  have k := blkOk_by h
  exact ⟨k.kind, k.uniq, k.ix, fun y hy e => by rw [hS]; exact k.free y hy e, k.own⟩
/-- and, or -/
theorem e_bool (hK : X.K = G.K) {op : BoolOp} {f : Expr → E} {pos : Pos} : ∀ {vs : List Expr}, (∀ v ∈ vs, PE X v (tE G T b W (f v))) → PE X (.BoolOp op vs pos) (tE G T b W (boolE op (vs.map f)))
  | [], _ => pe_bad
  | [a], h => pe_one (h a List.mem_cons_self)
  | a :: c :: r, h => by
    have ih := e_bool hK (op := op) (pos := pos) (vs := c :: r) fun v hv => h v (List.mem_cons_of_mem _ hv)
    cases op with
    | And => exact r_and hK (h a List.mem_cons_self) ih
    | Or => exact r_or hK (h a List.mem_cons_self) ih
theorem w_bool {op : BoolOp} {f : Expr → E} {pos : Pos} : ∀ {a : Expr} {vs : List Expr}, (∀ v ∈ a :: vs, PT X v (tT G T b W (f v))) → PW X (.BoolOp op (a :: vs) pos) (tT G T b W (boolE op ((a :: vs).map f)))
  | a, [], h => by
    cases op with
    | And => exact pw_and1 (h a List.mem_cons_self)
    | Or => exact pw_or1 (h a List.mem_cons_self)
  | a, c :: r, h => by
    have ih := w_bool (op := op) (pos := pos) (a := c) (vs := r) fun v hv => h v (List.mem_cons_of_mem _ hv)
    cases op with
    | And => exact w_and (h a List.mem_cons_self) ih
    | Or => exact w_or (h a List.mem_cons_self) ih
theorem beq_false_or {x : Str} (h : ¬ ((x == ("__debug__" : Str)) || (x == ("__classdict__" : Str))) = true) : (x == ("__debug__" : Str)) = false ∧ (x == ("__classdict__" : Str)) = false := by
  rw [Bool.or_eq_true] at h
  constructor
  · cases q : (x == ("__debug__" : Str)) with
    | true => exact absurd (.inl q) h
    | false => rfl
  · cases q : (x == ("__classdict__" : Str)) with
    | true => exact absurd (.inr q) h
    | false => rfl
theorem e_name (Gd : Good X G Tx T) {x : Str} {p : Pos} : PE X (.Name x p) (tE G T b W (if (x == ("__debug__" : Str)) || (x == ("__classdict__" : Str)) then .bad else if isLoc (X.env.scope.names.lookup x) then (match slotOf Tx.N x with | some i => .var i | none => .bad) else if globN X.env.scope.names x then .glob x else .bad)) := by
  split
  · exact pe_bad
  · rename_i hd
    obtain ⟨h1, h2⟩ := beq_false_or hd
    split
    · rename_i hl
      cases hs : slotOf Tx.N x with
      | none => exact pe_bad
      | some i =>
        refine r_var (by rw [Gd.eqN]; exact slot_at hs) ?_ h1 h2
        unfold isLoc at hl
        split at hl
        · rename_i h; exact .inl h
        · rename_i h; exact .inr (.inl h)
        · rename_i h; exact .inr (.inr h)
        · cases hl
    · split
      · rename_i hg
        exact r_glob Gd (show X.env.scope.names.lookup x = some .globalImplicit from beq_iff_eq.mp hg) h1
      · exact pe_bad
theorem plainIx {c : Expr} (h : isSlice c = false) : PlainIx c := by
  intro o i
  cases c <;> first | rfl | cases h
theorem fold_plain {e : Expr} {env : Env} (h : isSet e = false) : ∀ x, foldedSetIterable e env x = pure x := by
  intro x
  cases e <;> first | rfl | cases h
/-- what a comprehension's rule wants -/
structure LcP (X : Cx) (G : Gb) (T : Tb) (b : Nat) (elt tg it : Expr) (ifs : List Expr) (scope : Scope) (own : List (Str × Nat)) (ee ce : E) (tg' : Tg) : Prop where
  ok : BlkOk X.N X.env.scope scope own
  hin : tgIn (own.map (·.2)) tg' = true
  hg : ∀ (s : Shared) (H : Hp) (C : Addr) (cl : List (Str × Addr)) (fp : List Addr), PG (X.blk s H scope (compEnvC scope cl C X.env) fp) tg (tgG X.K tg')
  ht : ∀ (s : Shared) (H : Hp) (C : Addr) (cl : List (Str × Addr)) (fp : List Addr), PTs (X.blk s H scope (compEnvC scope cl C X.env) fp) ifs (tT G T b W0 ce)
  he : ∀ (s : Shared) (H : Hp) (C : Addr) (cl : List (Str × Addr)) (fp : List Addr), PE (X.blk s H scope (compEnvC scope cl C X.env) fp) elt (tE G T b W0 ee)
  hs : ∀ x, foldedSetIterable it X.env x = pure x
theorem lc_parts (Gd : Good X G Tx T) {n : Nat} (hO : OkN G Tx T b n) {elt tg it : Expr} {ifs : List Expr} {scope : Scope}
    (hc : (blkC Tx.N ⟨.function, X.env.scope.names, false, false, []⟩ scope (ownOf Tx.N scope.names) && tgIn ((ownOf Tx.N scope.names).map (·.2)) (trN Tx n (relN scope.names X.env.scope.names) tg) && !isSet it) = true) :
    LcP X G T b elt tg it ifs scope (ownOf Tx.N scope.names) (trE Tx n (relN scope.names X.env.scope.names) elt) (match ifs with | [] => .bl true | [c] => trE Tx n (relN scope.names X.env.scope.names) c | _ => .bad) (trN Tx n (relN scope.names X.env.scope.names) tg) := by
  simp only [Bool.and_eq_true, Bool.not_eq_true'] at hc
  obtain ⟨⟨h1, h2⟩, h3⟩ := hc
  have k := blkOk_by h1
  have nm : ∀ {cl : List (Str × Addr)} {C : Addr}, (compEnvC scope cl C X.env).scope.names = relN scope.names X.env.scope.names := fun {cl C} => names_rel Gd.kind
  refine ⟨by rw [Gd.eqN]; exact blk_of rfl h1, h2, fun s H C cl fp => ?_, fun s H C cl fp => ?_, fun s H C cl fp => ?_, fold_plain h3⟩
  · have g := gN (X := X.blk s H scope (compEnvC scope cl C X.env) fp) (Tx := Tx) Gd.calm Gd.nd Gd.eqN (some ((ownOf Tx.N scope.names).map (·.2))) (fun x i hx hl => by
      have hi := hl _ rfl
      rcases own_at k.uniq hx hi with q | q
      · right
        show (compEnvC scope cl C X.env).scope.names.lookup x = some .local
        rw [nm]; exact rel_local q
      · left
        show (scope.names.lookup x == some .cell) = true
        rw [q]; decide) n tg
    have e : (X.blk s H scope (compEnvC scope cl C X.env) fp).env.scope.names = relN scope.names X.env.scope.names := nm
    rw [e] at g
    exact g fun l hl => by cases hl; exact h2
  · have Gb := Gd.blk k.kind s H C cl fp
    have e : (X.blk s H scope (compEnvC scope cl C X.env) fp).env.scope.names = relN scope.names X.env.scope.names := nm
    match ifs with
    | [] =>
      refine ⟨fun pins s' σ H' Q I ⟨S, B, m, μ, ρ, hB, R, VV, P⟩ => pts_nil.run pins s' σ H' Q I ?_⟩
      exact PostT.now (show PostT G S B W0 m H' σ Q (.ok true μ) from P) R
    | [c] =>
      have := hO.t Gb (W := W0) takes0 c
      rw [e] at this
      exact pts_one this
    | _ :: _ :: _ => exact ⟨fun _ _ _ _ _ _ ⟨_, _, _, _, _, _, _, _, P⟩ => False.elim P⟩
  · have Gb := Gd.blk k.kind s H C cl fp
    have e : (X.blk s H scope (compEnvC scope cl C X.env) fp).env.scope.names = relN scope.names X.env.scope.names := nm
    have := hO.e Gb (W := W0) takes0 elt
    rw [e] at this
    exact this
theorem e_lc (Gd : Good X G Tx T) (tk : Takes X W) {n : Nat} (hO : OkN G Tx T b n) {elt tg it : Expr} {ifs : List Expr} {scope : Scope} {p : Pos}
    (hc : (blkC Tx.N ⟨.function, X.env.scope.names, false, false, []⟩ scope (ownOf Tx.N scope.names) && tgIn ((ownOf Tx.N scope.names).map (·.2)) (trN Tx n (relN scope.names X.env.scope.names) tg) && !isSet it) = true) :
    PE X (.ListComp elt [⟨tg, it, ifs, 0⟩] scope p) (tE G T b W (withTh Tx p (.lc (trE Tx n (relN scope.names X.env.scope.names) elt) (trN Tx n (relN scope.names X.env.scope.names) tg) (trI Tx n X.env.scope.names (isTup tg) it)
      (match ifs with | [] => .bl true | [c] => trE Tx n (relN scope.names X.env.scope.names) c | _ => .bad) ((ownOf Tx.N scope.names).map (·.2))))) := by
  have L := lc_parts (ifs := ifs) (elt := elt) Gd hO hc
  exact r_with (r_lc Gd.eqK Gd.calm Gd.nd (hO.i Gd tk tg it) L.ok L.hin L.hg L.ht L.he L.hs)
theorem biL {x : Str} (Gd : Good X G Tx T) (h : x ∈ (["range", "zip", "enumerate", "str"] : List Str)) : X.mg x = none := Gd.bi x (List.mem_append_right _ h)
end
end VM

set_option Elab.async false
set_option maxRecDepth 100000
set_option autoImplicit false
set_option linter.unusedVariables false
/-! every expression: the induction -/
namespace VM
open PySem PySem.Spec PyProof.Rows L2
section
variable {X : Cx} {G : Gb} {Tx : Tr} {T : Tb} {b : Nat} {W : L2.WX}
theorem e_const {c : Const} {k : Nat} {p : Pos} : PE X (.Constant c k p) (tE G T b W (match c with | .int i => .int i | .bool b => .bl b | .none => .non | .str s => .str s | _ => .bad)) := by
  cases c with
  | int i => exact pe_int.mono fun σ H Q ⟨S, B, m, μ, ρ, hB, R, VV, P⟩ => PostE.val (show PostE G S B W m H σ Q (.ok (.int i, 0) μ) from P) R (.int i)
  | bool i => exact pe_bl.mono fun σ H Q ⟨S, B, m, μ, ρ, hB, R, VV, P⟩ => PostE.val (show PostE G S B W m H σ Q (.ok (.bl i, 0) μ) from P) R (.bl i)
  | none => exact pe_non.mono fun σ H Q ⟨S, B, m, μ, ρ, hB, R, VV, P⟩ => PostE.val (show PostE G S B W m H σ Q (.ok (.non, 0) μ) from P) R .non
  | str i => exact pe_str.mono fun σ H Q ⟨S, B, m, μ, ρ, hB, R, VV, P⟩ => PostE.val (show PostE G S B W m H σ Q (.ok (.str i, 0) μ) from P) R (.str i)
  | _ => exact pe_bad
theorem e_any {n : Nat} (ih : OkN G Tx T b n) (Gd : Good X G Tx T) (tk : Takes X W) (e : Expr) : PE X e (tE G T b W (trE Tx (n + 1) X.env.scope.names e)) := by
  cases e with
  | Constant c k p => unfold trE; exact e_const
  | Name x p => unfold trE; exact e_name Gd
  | BinOp a op c p => unfold trE; exact r_with (r_bin Gd.eqK (ih.e Gd tk a) (ih.e Gd tk c))
  | UnaryOp op a p =>
    unfold trE
    cases op with
    | USub => exact r_neg (ih.e Gd tk a)
    | Not => exact r_not Gd.eqK (ih.e Gd tk a)
    | _ => exact pe_bad
  | BoolOp op vs p => unfold trE; exact e_bool Gd.eqK fun v _ => ih.e Gd tk v
  | Compare a ops bs p =>
    unfold trE
    match ops, bs with
    | [op], [c] =>
      show PE X _ (tE G T b W (if isSet c then .bad else _))
      split
      · exact pe_bad
      · rename_i h; exact r_cmp Gd.eqK Gd.hu (by simpa using h) (ih.e Gd tk a) (ih.e Gd tk c)
    | [op, op2], [c, g] =>
      show PE X _ (tE G T b W (if isSet g then .bad else _))
      split
      · exact pe_bad
      · rename_i h; exact r_cmp2 Gd.eqK Gd.hu (by simpa using h) (ih.e Gd tk a) (ih.e Gd tk c) (ih.e Gd tk g)
    | [], _ => exact pe_bad
    | [_], [] => exact pe_bad
    | [_], _ :: _ :: _ => exact pe_bad
    | [_, _], [] => exact pe_bad
    | [_, _], [_] => exact pe_bad
    | [_, _], _ :: _ :: _ :: _ => exact pe_bad
    | _ :: _ :: _ :: _, _ => exact pe_bad
  | IfExp t a c p => unfold trE; exact r_ife (ih.t Gd tk t) (ih.e Gd tk a) (ih.e Gd tk c)
  | List es p =>
    unfold trE
    show PE X _ (tE G T b W (if es.any isStar then .bad else _))
    split
    · exact pe_bad
    · rename_i h; exact r_with (r_lst (r_args (by simpa using h) fun e _ => ih.e Gd tk e))
  | Tuple es k p =>
    unfold trE
    show PE X _ (tE G T b W (if es.any isStar then .bad else _))
    split
    · exact pe_bad
    · rename_i h; exact r_tup (r_args (by simpa using h) fun e _ => ih.e Gd tk e)
  | Subscript a i p =>
    unfold trE
    cases i with
    | Slice lo hi st p2 =>
      cases st with
      | some s => exact pe_bad
      | none =>
        refine r_with (r_slc Gd.eqK (ih.e Gd tk a) ?_ ?_)
        · cases lo with
          | none => rfl
          | some l => exact ih.e Gd tk l
        · cases hi with
          | none => rfl
          | some l => exact ih.e Gd tk l
    | _ => exact r_ix Gd.eqK (plainIx rfl) (ih.e Gd tk a) (ih.e Gd tk _)
  | Call f es ks p =>
    unfold trE
    show PE X _ (tE G T b W (if es.any isStar || !ks.isEmpty then .bad else _))
    split
    · exact pe_bad
    · rename_i h
      rw [Bool.or_eq_true, not_or] at h
      have hs : es.any isStar = false := by simpa using h.1
      have hk : ks = [] := by simpa using h.2
      subst hk
      cases f with
      | Name x p2 =>
        show PE X _ (tE G T b W (if globN X.env.scope.names x then _ else .bad))
        split
        · rename_i hg
          have hg : Gl X x := show X.env.scope.names.lookup x = some .globalImplicit from beq_iff_eq.mp hg
          split
          · rename_i hd
            simp only [Bool.and_eq_true, bne_iff_ne, ne_eq, Bool.not_eq_true', List.isEmpty_eq_false_iff] at hd
            obtain ⟨⟨hd1, hd2⟩, hd3⟩ := hd
            cases es with
            | nil => exact absurd rfl hd3
            | cons e es => exact r_with (r_call Gd tk hd1 hg (by rw [beq_eq_false_iff_ne]; exact hd2) hs (r_args hs fun e _ => ih.e Gd tk e))
          · split
            · rename_i hd
              simp only [Bool.and_eq_true, Bool.not_eq_true', List.isEmpty_eq_false_iff] at hd
              cases es with
              | nil => exact absurd rfl hd.2
              | cons e es => exact r_with (r_bi Gd hd.1 hg hs (r_args hs fun e _ => ih.e Gd tk e))
            · split
              · rename_i hd
                simp only [Bool.and_eq_true, Bool.not_eq_true', List.isEmpty_eq_false_iff, beq_iff_eq] at hd
                obtain ⟨hd1, hd2⟩ := hd
                subst hd1
                cases es with
                | nil => exact absurd rfl hd2
                | cons e es => exact r_with (r_str Gd hg hs (r_args hs fun e _ => ih.e Gd tk e))
              · exact pe_bad
        · exact pe_bad
      | Attribute o m ap =>
        show PE X _ (tE G T b W (if bmNames.contains m && simpleO o && (ap.endLine == p.line) && decide (es.length < 30) then _ else .bad))
        split
        · rename_i hd
          simp only [Bool.and_eq_true, decide_eq_true_eq] at hd
          exact r_with (r_bms hd.1.1.1 hd.1.1.2 hd.1.2 hd.2 hs (ih.e Gd tk o) (r_args hs fun e _ => ih.e Gd tk e) fun z => by subst z; rfl)
        · exact pe_bad
      | _ => exact pe_bad
  | ListComp elt gs scope p =>
    unfold trE
    match gs with
    | [⟨tg, it, ifs, a⟩] =>
      show PE X _ (tE G T b W (if a = 0 then _ else .bad))
      split
      · rename_i ha
        subst ha
        split
        · rename_i hc; exact e_lc Gd tk ih hc
        · exact pe_bad
      · exact pe_bad
    | [] => exact pe_bad
    | ⟨_, _, _, _⟩ :: _ :: _ => exact pe_bad
  | _ => unfold trE; exact pe_bad
theorem t_any {n : Nat} (ih : OkN G Tx T b n) (Gd : Good X G Tx T) (tk : Takes X W) (e : Expr) : PT X e (tT G T b W (trE Tx (n + 1) X.env.scope.names e)) := by
  have he := e_any ih Gd tk e
  cases e with
  | UnaryOp op a p =>
    cases op with
    | Not => unfold trE; exact t_not (ih.t Gd tk a)
    | _ => exact r_truth Gd.eqK he fun _ => rfl
  | BoolOp op vs p =>
    unfold trE
    cases vs with
    | nil => exact pt_bad
    | cons a vs => exact PW.pt (w_bool fun v _ => ih.t Gd tk v)
  | Compare a ops bs p =>
    unfold trE
    match ops, bs with
    | [op], [c] =>
      show PT X _ (tT G T b W (if isSet c then .bad else _))
      split
      · exact pt_bad
      · rename_i h; exact r_cmpT Gd.eqK Gd.hu (by simpa using h) (ih.e Gd tk a) (ih.e Gd tk c)
    | [op, op2], [c, g] =>
      show PT X _ (tT G T b W (if isSet g then .bad else _))
      split
      · exact pt_bad
      · rename_i h; exact r_cmp2T Gd.eqK Gd.hu (by simpa using h) (ih.e Gd tk a) (ih.e Gd tk c) (ih.e Gd tk g)
    | [], _ => exact pt_bad
    | [_], [] => exact pt_bad
    | [_], _ :: _ :: _ => exact pt_bad
    | [_, _], [] => exact pt_bad
    | [_, _], [_] => exact pt_bad
    | [_, _], _ :: _ :: _ :: _ => exact pt_bad
    | _ :: _ :: _ :: _, _ => exact pt_bad
  | IfExp t a c p => unfold trE; exact t_ife (ih.t Gd tk t) (ih.t Gd tk a) (ih.t Gd tk c)
  | _ => exact r_truth Gd.eqK he fun _ => rfl
theorem i_any {n : Nat} (ih : OkN G Tx T b n) (Gd : Good X G Tx T) (tk : Takes X W) (tg e : Expr) : PI X tg e (tI X.K G T b W (trI Tx (n + 1) X.env.scope.names (isTup tg) e)) := by
  have hx : PI X tg e (tI X.K G T b W (.ex (trE Tx n X.env.scope.names e))) := i_ex Gd.eqK (ih.e Gd tk e)
  cases e with
  | Call f es ks p =>
    unfold trI
    cases f with
    | Name x p2 =>
      show PI X _ _ (tI X.K G T b W (if globN X.env.scope.names x && !Tx.defs.contains x && ks.isEmpty then _ else _))
      split
      · rename_i h
        simp only [Bool.and_eq_true, List.isEmpty_iff] at h
        obtain ⟨⟨hg, _⟩, rfl⟩ := h
        have hg : Gl X x := show X.env.scope.names.lookup x = some .globalImplicit from beq_iff_eq.mp hg
        split
        · rename_i hr
          have hr : x = "range" := by simpa using hr
          subst hr
          match es with
          | [a] =>
            show PI X _ _ (tI X.K G T b W (if isStar a then _ else _))
            split
            · exact i_bad
            · rename_i h1; exact i_rng1 hg (biL Gd (by simp)) (by simpa using h1) (ih.e Gd tk a)
          | [a, c] =>
            show PI X _ _ (tI X.K G T b W (if isStar a || isStar c then _ else _))
            split
            · exact i_bad
            · rename_i h1
              rw [Bool.or_eq_true, not_or] at h1
              exact i_rng2 hg (biL Gd (by simp)) (by simpa using h1.1) (by simpa using h1.2) (ih.e Gd tk a) (ih.e Gd tk c)
          | [] => exact i_bad
          | _ :: _ :: _ :: _ => exact i_bad
        · split
          · rename_i hr
            have hr : x = "zip" := by simpa using hr
            subst hr
            match es with
            | [a, c] =>
              show PI X _ _ (tI X.K G T b W (if isStar a || isStar c || !isTup tg then _ else _))
              split
              · exact i_bad
              · rename_i h1
                rw [Bool.or_eq_true, not_or, Bool.or_eq_true, not_or] at h1
                cases tg with
                | Tuple ts k tp => exact i_zip Gd.eqK hg (biL Gd (by simp)) (by simpa using h1.1.1) (by simpa using h1.1.2) (ih.e Gd tk a) (ih.e Gd tk c)
                | _ => exact absurd rfl h1.2
            | [] => exact i_bad
            | [_] => exact i_bad
            | _ :: _ :: _ :: _ => exact i_bad
          · split
            · rename_i hr
              have hr : x = "enumerate" := by simpa using hr
              subst hr
              match es with
              | [a] =>
                show PI X _ _ (tI X.K G T b W (if isStar a || !isTup tg then _ else _))
                split
                · exact i_bad
                · rename_i h1
                  rw [Bool.or_eq_true, not_or] at h1
                  cases tg with
                  | Tuple ts k tp => exact i_enum Gd.eqK hg (biL Gd (by simp)) (by simpa using h1.1) (ih.e Gd tk a)
                  | _ => exact absurd rfl h1.2
              | [] => exact i_bad
              | _ :: _ :: _ => exact i_bad
            · exact hx
      · exact hx
    | _ => exact hx
  | _ => unfold trI; exact hx
theorem okN : ∀ n, OkN G Tx T b n
  | 0 => ⟨fun _ _ _ e => by unfold trE; exact pe_bad, fun _ _ _ e => by unfold trE; exact pt_bad, fun _ _ _ _ e => by unfold trI; exact i_bad⟩
  | n + 1 => ⟨fun Gd _ tk e => e_any (okN n) Gd tk e, fun Gd _ tk e => t_any (okN n) Gd tk e, fun Gd _ tk tg e => i_any (okN n) Gd tk tg e⟩
end
end VM

set_option Elab.async false
set_option maxRecDepth 100000
set_option autoImplicit false
set_option linter.unusedVariables false
/-! statements -/
namespace VM
open PySem PySem.Spec PyProof.Rows L2
def PostG (G : Gb) (S : AP_) (B : Nat → Prop) (W : L2.WX) (m : List Addr) (H : Hp) (Q : L2.St → Hp → Prop) : RS → Prop
  | .nx ρ' μ' => ∀ σ' H' m', Evo m H m' H' → Rep G S B m' μ' H' → EnvR G (av S m') m' H' σ' ρ' → Q σ' H'
  | .err x ρ' μ' => ∀ σ' cls dd H' m', Evo m H m' H' → Rep G S B m' μ' H' → EnvR G (av S m') m' H' σ' ρ' → ExcR G x cls dd H' → W cls dd σ' H'
  | _ => False
def PostS (G : Gb) (S : AP_) (B : Nat → Prop) (W : L2.WX) (m : List Addr) (H : Hp) (D : L2.Ends) : RS → Prop
  | .nx ρ' μ' => ∀ σ' H' m', Evo m H m' H' → Rep G S B m' μ' H' → EnvR G (av S m') m' H' σ' ρ' → D.nx σ' H'
  | .brk ρ' μ' => ∀ σ' H' m', Evo m H m' H' → Rep G S B m' μ' H' → EnvR G (av S m') m' H' σ' ρ' → D.bk σ' H'
  | .ct ρ' μ' => ∀ σ' H' m', Evo m H m' H' → Rep G S B m' μ' H' → EnvR G (av S m') m' H' σ' ρ' → D.ct σ' H'
  | .ret d f μ' => ∀ v H' m', Evo m H m' H' → Rep G S B m' μ' H' → RV G (av S m') m' H' v d → NWP f G S H m' μ' H' v d → D.rt v H'
  | .err x ρ' μ' => ∀ σ' cls dd H' m', Evo m H m' H' → Rep G S B m' μ' H' → EnvR G (av S m') m' H' σ' ρ' → ExcR G x cls dd H' → W cls dd σ' H'
  | .bad => False
def tS (G : Gb) (T : Tb) (b : Nat) (W : L2.WX) (st : S) : L2.TS := fun D σ H => ∃ S B m μ ρ, (∀ x, B x → x ≤ b) ∧ Rep G S B m μ H ∧ EnvR G (av S m) m H σ ρ ∧ PostS G S B W m H D (runS T b st ρ μ)
def tSs (G : Gb) (T : Tb) (b : Nat) (W : L2.WX) (st : Ss) : L2.TS := fun D σ H => ∃ S B m μ ρ, (∀ x, B x → x ≤ b) ∧ Rep G S B m μ H ∧ EnvR G (av S m) m H σ ρ ∧ PostS G S B W m H D (runSs T b st ρ μ)
def tTg (G : Gb) (T : Tb) (b : Nat) (W : L2.WX) (t : Tg) : L2.TG := fun v σ H Q => ∃ S B m μ ρ d, (∀ x, B x → x ≤ b) ∧ Rep G S B m μ H ∧ EnvR G (av S m) m H σ ρ ∧ RV G (av S m) m H v d ∧ PostG G S B W m H Q (asg T b t d ρ μ)
def tTgs (G : Gb) (T : Tb) (b : Nat) (W : L2.WX) (t : Tgs) : L2.TGs := fun vs σ H Q => ∃ S B m μ ρ ds, (∀ x, B x → x ≤ b) ∧ Rep G S B m μ H ∧ EnvR G (av S m) m H σ ρ ∧ RVs G (av S m) m H vs ds ∧ PostG G S B W m H Q (asgs T b t ds ρ μ)

section
variable {X : Cx} {G : Gb} {Tx : Tr} {T : Tb} {b : Nat} {W : L2.WX}
theorem _root_.L2.PS.mono {st : Stmt} {t t' : L2.TS} (h : PS X st t) (k : ∀ D σ H, t' D σ H → t D σ H) : PS X st t' := ⟨fun pins s σ H D I q => h.run pins s σ H D I (k _ _ _ q)⟩
theorem _root_.L2.PSs.mono {st : List Stmt} {t t' : L2.TS} (h : PSs X st t) (k : ∀ D σ H, t' D σ H → t D σ H) : PSs X st t' := ⟨fun pins s σ H D I q => h.run pins s σ H D I (k _ _ _ q)⟩
theorem _root_.L2.PG.mono {e : Expr} {t t' : L2.TG} (h : PG X e t) (k : ∀ v σ H Q, t' v σ H Q → t v σ H Q) : PG X e t' := ⟨fun pins s σ H v u Q I r q => h.run pins s σ H v u Q I r (k _ _ _ _ q)⟩
theorem _root_.L2.PGs.mono {e : List Expr} {t t' : L2.TGs} (h : PGs X e t) (k : ∀ v σ H Q, t' v σ H Q → t v σ H Q) : PGs X e t' := ⟨fun pins s σ H v u Q I r q => h.run pins s σ H v u Q I r (k _ _ _ _ q)⟩
theorem ps_bad {st : Stmt} : PS X st (tS G T b W .bad) := ⟨fun _ _ _ _ _ _ ⟨_, _, _, _, _, _, _, _, P⟩ => False.elim P⟩
section
variable {S : AP_} {B : Nat → Prop} {m m1 : List Addr} {μ : Sto} {H H1 : Hp} {σ : L2.St} {ρ : Ev}
theorem PostG.shift {r : RS} {Q : L2.St → Hp → Prop} (e : Evo m H m1 H1) (h : PostG G S B W m H Q r) : PostG G S B W m1 H1 Q r := by
  cases r with
  | nx ρ' μ' => exact fun σ' H' m' e1 => h σ' H' m' (e.trans e1)
  | err x ρ' μ' => exact fun σ' c dd H' m' e1 => h σ' c dd H' m' (e.trans e1)
  | _ => exact h
theorem PostS.shift {r : RS} {D : L2.Ends} (e : Evo m H m1 H1) (h : PostS G S B W m H D r) : PostS G S B W m1 H1 D r := by
  cases r with
  | nx ρ' μ' => exact fun σ' H' m' e1 => h σ' H' m' (e.trans e1)
  | brk ρ' μ' => exact fun σ' H' m' e1 => h σ' H' m' (e.trans e1)
  | ct ρ' μ' => exact fun σ' H' m' e1 => h σ' H' m' (e.trans e1)
  | ret d f μ' =>
    intro v H' m' e1 R r n
    refine h v H' m' (e.trans e1) R r ?_
    rcases n with n | ⟨a, vs, ds, e2, e3, e4, e5⟩
    · exact .inl n
    · exact .inr ⟨a, vs, ds, e2, e3, e.free e4, e5⟩
  | err x ρ' μ' => exact fun σ' c dd H' m' e1 => h σ' c dd H' m' (e.trans e1)
  | bad => exact h
theorem stE {r : R (D × Nat)} {f : D × Nat → Sto → RS} {D : L2.Ends} {Q1 : VK} (VV : EnvR G (av S m) m H σ ρ) (h : PostS G S B W m H D (r.st ρ f))
    (k : ∀ (d : VM.D × Nat) (μ1 : Sto) (v : V) (H1 : Hp) (m1 : List Addr), Evo m H m1 H1 → Rep G S B m1 μ1 H1 → RV G (av S m1) m1 H1 v d.1 → NWP d.2 G S H m1 μ1 H1 v d.1 → PostS G S B W m1 H1 D (f d μ1) → Q1 v H1) : PostE G S B W m H σ Q1 r := by
  cases r with
  | ok d μ1 => exact fun v H1 m1 e R r n => k d μ1 v H1 m1 e R r n (PostS.shift e h)
  | err x μ1 => exact fun c dd H' m' e R x => h σ c dd H' m' e R (VV.evo e) x
  | bad => exact h
theorem stT {r : R Bool} {f : Bool → Sto → RS} {D : L2.Ends} {Q1 : Bool → Hp → Prop} (VV : EnvR G (av S m) m H σ ρ) (h : PostS G S B W m H D (r.st ρ f))
    (k : ∀ (c : Bool) (μ1 : Sto) (H1 : Hp) (m1 : List Addr), Evo m H m1 H1 → Rep G S B m1 μ1 H1 → PostS G S B W m1 H1 D (f c μ1) → Q1 c H1) : PostT G S B W m H σ Q1 r := by
  cases r with
  | ok d μ1 => exact fun H1 m1 e R => k d μ1 H1 m1 e R (PostS.shift e h)
  | err x μ1 => exact fun c dd H' m' e R x => h σ c dd H' m' e R (VV.evo e) x
  | bad => exact h
theorem stI {K : PySem.W.Frag} {r : R Src} {f : Src → Sto → RS} {D : L2.Ends} {Q1 : L2.It → Hp → Prop} (VV : EnvR G (av S m) m H σ ρ) (h : PostS G S B W m H D (r.st ρ f))
    (k : ∀ (s : Src) (μ1 : Sto) (J : L2.It) (H1 : Hp) (m1 : List Addr), Evo m H m1 H1 → Rep G S B m1 μ1 H1 → SR K G S m1 H1 s J → PostS G S B W m1 H1 D (f s μ1) → Q1 J H1) : PostI K G S B W m H σ Q1 r := by
  cases r with
  | ok d μ1 => exact fun J H1 m1 e R sr => k d μ1 J H1 m1 e R sr (PostS.shift e h)
  | err x μ1 => exact fun c dd H' m' e R x => h σ c dd H' m' e R (VV.evo e) x
  | bad => exact h
end

/-! targets -/
theorem g_bad {e : Expr} : PG X e (tTg G T b W .bad) := ⟨fun _ _ _ _ _ _ _ _ _ ⟨_, _, _, _, _, _, _, _, _, _, P⟩ => False.elim P⟩
theorem g_name {i : Nat} {x : Str} {p : Pos} (hN : X.N.Nodup) (hi : X.N[i]? = some x) (hx : Loc X.env.scope x) (hf : X.fn x = true ∨ X.env.scope.names.lookup x = some .local) : PG X (.Name x p) (tTg G T b W (.name i)) :=
  (pg_name hN hi hx hf).mono fun v σ H Q ⟨S, B, m, μ, ρ, d, hB, R, VV, r, P⟩ => P _ H m (Evo.refl m H) R (VV.set i r)
theorem asg_sub {o i : E} {d : D} {ρ : Ev} {μ : Sto} : asg T b (.sub o i) d ρ μ = match evE T b o ρ μ with
    | .ok od μ1 => match evE T b i ρ μ1 with
      | .ok id μ2 => match setD b od.1 id.1 d μ2 with | some μ3 => .nx ρ μ3 | none => .bad
      | .err x μ2 => .err x ρ μ2
      | .bad => .bad
    | .err x μ1 => .err x ρ μ1
    | .bad => .bad := rfl
theorem set_at {S : AP_} {B : Nat → Prop} {m : List Addr} {μ μ3 : Sto} {H : Hp} {o i v : V} {od id d : D} {Q : Hp → Prop} (hB : ∀ x, B x → x ≤ b) (R : Rep G S B m μ H) (ro : RV G (av S m) m H o od) (ri : RV G (av S m) m H i id) (rv : RV G (av S m) m H v d)
    (h : setD b od id d μ = some μ3) (k : ∀ H', Evo m H m H' → Rep G S B m μ3 H' → Q H') : rSetL o i v H Q := by
  cases ro with
  | @cell l a hm =>
    cases ri with
    | int z =>
      have h : (match μ[l]? with
        | some (C.lst xs) => match ixN xs.length z with
          | some j => if mayPut b l d then some (μ.set l (.lst (xs.set j d))) else none
          | none => none
        | _ => none) = some μ3 := h
      split at h
      · rename_i xs hl
        split at h
        · rename_i j hj
          by_cases hp : mayPut b l d = true
          · rw [if_pos hp] at h
            cases h
            obtain ⟨vs, e, t⟩ := R.at_ l a _ hm hl
            have E : Evo m H m (upd H a (.lst (vs.set j v))) := Evo.put (List.mem_of_getElem? hm)
            refine ⟨a, vs, z, j, rfl, rfl, e, by rw [t.length]; exact hj, k _ E (R.put hm ⟨_, upd_same, (RVs.set rv j t).evo E⟩ fun x hx hlx => ?_)⟩
            show belowL x (xs.set j d)
            rw [belowL_iff]
            intro y hy
            rcases List.mem_or_eq_of_mem_set hy with hy | rfl
            · exact belowL_iff.mp (lev_items R hl x hx hlx) y hy
            · exact put_lev (S := S) (m := m) (μ := μ) (H := H) hB hp x hx hlx
          · rw [if_neg hp] at h; cases h
        · cases h
      · cases h
    | _ => cases h
  | _ => cases h
theorem g_sub {o i : Expr} {eo ei : E} {p : Pos} (hs : isSlice i = false) (ho : PE X o (tE G T b W eo)) (hi : PE X i (tE G T b W ei)) : PG X (.Subscript o i p) (tTg G T b W (.sub eo ei)) := by
  refine (pg_sub ho hi set_list (by intro v; cases i <;> first | rfl | cases hs)).mono fun v σ H Q ⟨S, B, m, μ, ρ, d, hB, R, VV, r, P⟩ => ⟨S, B, m, μ, ρ, hB, R, VV, ?_⟩
  rw [asg_sub] at P
  cases q : evE T b eo ρ μ with
  | bad => rw [q] at P; exact P
  | err x μ1 => rw [q] at P; exact fun c dd H' m' e R x => P σ c dd H' m' e R (VV.evo e) x
  | ok od μ1 =>
    rw [q] at P
    intro ov H1 m1 e1 R1 r1 _
    refine ⟨S, B, m1, μ1, ρ, hB, R1, VV.evo e1, ?_⟩
    have P : PostG G S B W m H Q (match evE T b ei ρ μ1 with
      | .ok id μ2 => match setD b od.1 id.1 d μ2 with | some μ3 => .nx ρ μ3 | none => .bad
      | .err x μ2 => .err x ρ μ2
      | .bad => .bad) := P
    cases q2 : evE T b ei ρ μ1 with
    | bad => rw [q2] at P; exact P
    | err x μ2 => rw [q2] at P; exact fun c dd H' m' e R x => P σ c dd H' m' (e1.trans e) R (VV.evo (e1.trans e)) x
    | ok id μ2 =>
      rw [q2] at P
      intro iv H2 m2 e2 R2 r2 _
      have P : PostG G S B W m H Q (match setD b od.1 id.1 d μ2 with | some μ3 => .nx ρ μ3 | none => .bad) := P
      cases q3 : setD b od.1 id.1 d μ2 with
      | none => rw [q3] at P; exact False.elim P
      | some μ3 =>
        rw [q3] at P
        exact set_at hB R2 (r1.evo e2) r2 (r.evo (e1.trans e2)) q3 fun H' e3 R3 => P σ H' m2 ((e1.trans e2).trans e3) R3 (VV.evo ((e1.trans e2).trans e3))
theorem g_nil : PGs X [] (tTgs G T b W .nil) := by
  refine pgs_nil.mono fun vs σ H Q ⟨S, B, m, μ, ρ, ds, hB, R, VV, t, P⟩ => ?_
  cases t with
  | nil => exact ⟨rfl, P σ H m (Evo.refl m H) R VV⟩
  | cons r t => exact False.elim P
theorem g_cons {e : Expr} {es : List Expr} {t : Tg} {ts : Tgs} (hs : isStar e = false) (h1 : PG X e (tTg G T b W t)) (h2 : PGs X es (tTgs G T b W ts)) : PGs X (e :: es) (tTgs G T b W (.cons t ts)) := by
  refine (pgs_cons h1 h2 (by rw [asg_cons hs]; rfl)).mono fun vs σ H Q ⟨S, B, m, μ, ρ, ds, hB, R, VV, tt, P⟩ => ?_
  cases tt with
  | nil => exact False.elim P
  | @cons v d vs ds r tt =>
    refine ⟨v, vs, rfl, S, B, m, μ, ρ, d, hB, R, VV, r, ?_⟩
    have P : PostG G S B W m H Q (match asg T b t d ρ μ with | .nx ρ1 μ1 => asgs T b ts ds ρ1 μ1 | r => r) := P
    cases q : asg T b t d ρ μ with
    | nx ρ1 μ1 =>
      rw [q] at P
      exact fun σ1 H1 m1 e1 R1 V1 => ⟨S, B, m1, μ1, ρ1, ds, hB, R1, V1, tt.evo e1, PostG.shift e1 P⟩
    | err x ρ1 μ1 => rw [q] at P; exact P
    | _ => rw [q] at P; exact False.elim P
theorem g_all {f : Expr → Tg} : ∀ {es : List Expr}, es.any isStar = false → (∀ e ∈ es, PG X e (tTg G T b W (f e))) → PGs X es (tTgs G T b W (tgsOf (es.map f)))
  | [], _, _ => g_nil
  | e :: es, hs, h => by
    rw [List.any_cons, Bool.or_eq_false_iff] at hs
    exact g_cons hs.1 (h e List.mem_cons_self) (g_all hs.2 fun x hx => h x (List.mem_cons_of_mem _ hx))
theorem g_tup {es : List Expr} {f : Expr → Tg} {k : Nat} {p : Pos} (calm : X.calm = true) (hs : es.any isStar = false) (h : ∀ e ∈ es, PG X e (tTg G T b W (f e))) : PG X (.Tuple es k p) (tTg G T b W (.tup (tgsOf (es.map f)))) := by
  obtain ⟨h1, h2⟩ := asg_len (env := X.env) hs
  refine (pg_tup (n := es.length) calm (g_all hs h) h1 h2).mono fun v σ H Q ⟨S, B, m, μ, ρ, d, hB, R, VV, r, P⟩ => ?_
  cases r with
  | @tup a vs xs hh nn tt =>
    have P : PostG G S B W m H Q (if xs.length = tgsLen (tgsOf (es.map f)) then asgs T b (tgsOf (es.map f)) xs ρ μ else .bad) := P
    rw [tgs_len] at P
    by_cases hl : xs.length = es.length
    · rw [if_pos hl] at P
      exact ⟨a, vs, rfl, .of hh, by rw [tt.length]; exact hl, S, B, m, μ, ρ, xs, hB, R, VV, tt, P⟩
    · rw [if_neg hl] at P; exact False.elim P
  | _ => exact False.elim P
/-! single statements -/
theorem only_nx {S : AP_} {B : Nat → Prop} {m : List Addr} {H : Hp} {D : L2.Ends} {r : RS} (P : PostS G S B W m H D (onlyNx r)) : PostG G S B W m H D.nx r := by
  cases r with
  | nx ρ μ => exact P
  | err x ρ μ => exact P
  | _ => exact False.elim P
theorem s_asg {tg e : Expr} {p : Pos} {ir : E} {t : Tg} (he : PE X e (tE G T b W ir)) (hg : PG X tg (tTg G T b W t)) (hs : swapsWithSole [tg] e p.line X.env = pure false) (hw : swappedStores [tg] e X.env = pure none) (h1 : isStar tg = false) : PS X (.Assign [tg] e p) (tS G T b W (.set t ir)) := by
  refine (ps_asg he hg hs hw (by rw [asg_cons h1]; rfl)).mono fun D σ H ⟨S, B, m, μ, ρ, hB, R, VV, P⟩ => ⟨S, B, m, μ, ρ, hB, R, VV, ?_⟩
  refine stE VV P fun d μ1 v H1 m1 e1 R1 r1 _ P1 => ⟨S, B, m1, μ1, ρ, d.1, hB, R1, VV.evo e1, r1, ?_⟩
  exact only_nx P1
theorem s_setLc {i : Nat} {y : Str} {py pos spos : Pos} {elt tg iter : Expr} {ifs : List Expr} {scope : Scope} {own : List (Str × Nat)} {ee ce : E} {tg' : Tg} {it' : It} {ir : E} (hK : X.K = G.K) (hc : X.calm = true) (hN : X.N.Nodup) (hk : X.env.scope.kind = .function) (hy : X.N[i]? = some y) (hyl : X.env.scope.names.lookup y = some .local)
    (hl : (py.line == pos.line) = true) (ha : (scope.names.any fun (n, k) => n == y && (k == .local || k == .cell)) = false) (hi : PI X tg iter (tI X.K G T b W it')) (L : LcP X G T b elt tg iter ifs scope own ee ce tg')
    (hir : ∀ σ H Q, tE G T b W ir σ H Q → tE G T b W (.lc ee tg' it' ce (own.map (·.2))) σ H Q) :
    PS X (.Assign [.Name y py] (.ListComp elt [⟨tg, iter, ifs, 0⟩] scope pos) spos) (tS G T b W (.set (.name i) ir)) := by
  refine (ps_setLc hc hN hy hyl (sw_true hk hyl hl ha) hi L.ok L.hg L.ht L.he L.hs).mono fun D σ H ⟨S, B, m, μ, ρ, hB, R, VV, P⟩ => ?_
  refine lc_imp hK L.hin (hir σ H _ ⟨S, B, m, μ, ρ, hB, R, VV, ?_⟩)
  refine stE VV P fun d μ1 v H1 m1 e1 R1 r1 _ P1 => ?_
  exact only_nx P1 _ H1 m1 (Evo.refl m1 H1) R1 ((VV.evo e1).set i r1)
theorem s_par {i j : Nat} {x y : Str} {a c : Expr} {ea ec : E} {px py pt pos : Pos} {kt k2 : Nat} {pt2 : Pos} (hc : X.calm = true) (hN : X.N.Nodup) (hi : X.N[i]? = some x) (hj : X.N[j]? = some y) (hxy : x ≠ y)
    (hx : X.env.scope.names.lookup x = some .local) (hy : X.env.scope.names.lookup y = some .local) (h1 : isStar a = false) (h2 : isStar c = false) (ha : PE X a (tE G T b W ea)) (hcc : PE X c (tE G T b W ec))
    (hw : swappedStores [.Tuple [.Name x px, .Name y py] kt pt] (.Tuple [a, c] k2 pt2) X.env = pure (some [x, y])) :
    PS X (.Assign [.Tuple [.Name x px, .Name y py] kt pt] (.Tuple [a, c] k2 pt2) pos) (tS G T b W (.par i j ea ec)) := by
  have hij : i ≠ j := fun z => hxy (by subst z; rw [hi] at hj; exact Option.some.inj hj)
  refine (ps_par hc hN hi hj hij hx hy (pa_cons ha (pa_cons hcc pa_nil (star_cons h2)) (star_cons h1)) hw rfl).mono fun D σ H ⟨S, B, m, μ, ρ, hB, R, VV, P⟩ => ⟨S, B, m, μ, ρ, hB, R, VV, ?_⟩
  refine stE VV P fun d μ1 v H1 m1 e1 R1 r1 _ P1 => ⟨S, B, m1, μ1, ρ, hB, R1, VV.evo e1, ?_⟩
  refine stE (VV.evo e1) P1 fun d2 μ2 v2 H2 m2 e2 R2 r2 _ P2 => ⟨v, v2, rfl, ?_⟩
  exact P2 _ H2 m2 (Evo.refl m2 H2) R2 ((((VV.evo e1).evo e2).set i (r1.evo e2)).set j r2)
theorem s_expr {e : Expr} {ir : E} {p : Pos} (h : isLc e = false) (he : PE X e (tE G T b W ir)) : PS X (.Expr e p) (tS G T b W (.expr ir)) := by
  refine (ps_expr he (by cases e <;> first | rfl | cases h)).mono fun D σ H ⟨S, B, m, μ, ρ, hB, R, VV, P⟩ => ⟨S, B, m, μ, ρ, hB, R, VV, ?_⟩
  exact stE VV P fun d μ1 v H1 m1 e1 R1 r1 _ P1 => P1 σ H1 m1 (Evo.refl m1 H1) R1 (VV.evo e1)
theorem s_ret {e : Expr} {ir : E} {p : Pos} (he : PE X e (tE G T b W ir)) : PS X (.Return (some e) p) (tS G T b W (.ret ir)) := by
  refine (ps_ret he).mono fun D σ H ⟨S, B, m, μ, ρ, hB, R, VV, P⟩ => ⟨S, B, m, μ, ρ, hB, R, VV, ?_⟩
  have P : PostS G S B W m H D ((evE T b ir ρ μ).st ρ fun d μ1 => .ret d.1 d.2 μ1) := P
  cases q : evE T b ir ρ μ with
  | ok d μ1 => rw [q] at P; exact fun v H1 m1 e R r n => P v H1 m1 e R r n
  | err x μ1 => rw [q] at P; exact fun c dd H' m' e R x => P σ c dd H' m' e R (VV.evo e) x
  | bad => rw [q] at P; exact P
theorem s_retn {p : Pos} : PS X (.Return none p) (tS G T b W .retn) :=
  ps_retN.mono fun D σ H ⟨S, B, m, μ, ρ, hB, R, VV, P⟩ => PostE.val (σ := σ) (W := W) (show PostE G S B W m H σ D.rt (.ok (.non, 0) μ) from fun v H' m' e R r n => P v H' m' e R r n) R .non
theorem s_pass {p : Pos} : PS X (.Pass p) (tS G T b W .pass) := ps_pass.mono fun D σ H ⟨S, B, m, μ, ρ, hB, R, VV, P⟩ => P σ H m (Evo.refl m H) R VV
theorem s_brk {p : Pos} : PS X (.Break p) (tS G T b W .brk) := ps_break.mono fun D σ H ⟨S, B, m, μ, ρ, hB, R, VV, P⟩ => P σ H m (Evo.refl m H) R VV
theorem s_cnt {p : Pos} : PS X (.Continue p) (tS G T b W .cnt) := ps_continue.mono fun D σ H ⟨S, B, m, μ, ρ, hB, R, VV, P⟩ => P σ H m (Evo.refl m H) R VV
theorem s_doc {x : Str} {j : Nat} {p p2 : Pos} : PS X (.Expr (.Constant (.str x) j p) p2) (tS G T b W .pass) := ps_doc.mono fun D σ H ⟨S, B, m, μ, ρ, hB, R, VV, P⟩ => P σ H m (Evo.refl m H) R VV
theorem s_if {c : Expr} {x y : List Stmt} {ec : E} {ex ey : Ss} {p : Pos} (hc : PT X c (tT G T b W ec)) (hx : PSs X x (tSs G T b W ex)) (hy : PSs X y (tSs G T b W ey)) : PS X (.If c x y p) (tS G T b W (.ife ec ex ey)) := by
  refine (ps_if hc hx hy).mono fun D σ H ⟨S, B, m, μ, ρ, hB, R, VV, P⟩ => ⟨S, B, m, μ, ρ, hB, R, VV, ?_⟩
  refine stT VV P fun k μ1 H1 m1 e1 R1 P1 => ?_
  cases k with
  | true => exact iteT ⟨S, B, m1, μ1, ρ, hB, R1, VV.evo e1, P1⟩
  | false => exact iteF ⟨S, B, m1, μ1, ρ, hB, R1, VV.evo e1, P1⟩
theorem ss_nil : PSs X [] (tSs G T b W .nil) := pss_nil.mono fun D σ H ⟨S, B, m, μ, ρ, hB, R, VV, P⟩ => P σ H m (Evo.refl m H) R VV
theorem ss_cons {st : Stmt} {sts : List Stmt} {s : VM.S} {ss : Ss} (h1 : PS X st (tS G T b W s)) (h2 : PSs X sts (tSs G T b W ss)) : PSs X (st :: sts) (tSs G T b W (.cons s ss)) := by
  refine (pss_cons h1 h2).mono fun D σ H ⟨S, B, m, μ, ρ, hB, R, VV, P⟩ => ⟨S, B, m, μ, ρ, hB, R, VV, ?_⟩
  have P : PostS G S B W m H D (match runS T b s ρ μ with | .nx ρ1 μ1 => runSs T b ss ρ1 μ1 | r => r) := P
  cases q : runS T b s ρ μ with
  | nx ρ1 μ1 => rw [q] at P; exact fun σ' H' m' e R V' => ⟨S, B, m', μ1, ρ1, hB, R, V', PostS.shift e P⟩
  | ret d f μ1 => rw [q] at P; exact P
  | brk ρ1 μ1 => rw [q] at P; exact P
  | ct ρ1 μ1 => rw [q] at P; exact P
  | err x ρ1 μ1 => rw [q] at P; exact P
  | bad => rw [q] at P; exact P
theorem s_for {tg it : Expr} {body : List Stmt} {t : Tg} {ir : It} {bs : Ss} {p : Pos} (hK : X.K = G.K) (hp : PassesOwn (model X.prog X.w) X.A X.env X.xe) (hc : X.calm = true) (hi : PI X tg it (tI X.K G T b W ir)) (hg : PG X tg (tTg G T b W t)) (hb : PSs X body (tSs G T b W bs))
    (hs : ∀ x, foldedSetIterable it X.env x = pure x) : PS X (.For tg it body [] p) (tS G T b W (.for_ t ir bs)) := by
  refine (ps_for hp hc hi hg hb hs).mono fun D σ H ⟨S, B, m, μ, ρ, hB, R, VV, P⟩ => ⟨S, B, m, μ, ρ, hB, R, VV, ?_⟩
  refine stI VV P fun src μ1 J H1 m1 e1 R1 sr P1 => ?_
  refine ⟨fun i k σ' H' => ∃ m' μ' ρ', Rep G S B m' μ' H' ∧ EnvR G (av S m') m' H' σ' ρ' ∧ SR G.K G S m' H' src J ∧ PostS G S B W m' H' D (forLoop (asg T b t) (fun ρ μ => runSs T b bs ρ μ) src k i ρ' μ'), ⟨_, m1, μ1, ρ, R1, VV.evo e1, hK ▸ sr, P1⟩, ?_⟩
  rintro i k σ' H' ⟨m', μ', ρ', R', V', sr', P'⟩
  cases k with
  | zero => exact False.elim P'
  | succ k =>
    have P' : PostS G S B W m' H' D (match src.at μ' i with
      | .bad => .bad
      | .done => .nx ρ' μ'
      | .item x => match asg T b t x ρ' μ' with
        | .nx ρ1 μ1 => match runSs T b bs ρ1 μ1 with
          | .nx ρ2 μ2 => forLoop (asg T b t) (fun ρ μ => runSs T b bs ρ μ) src k (i + 1) ρ2 μ2
          | .ct ρ2 μ2 => forLoop (asg T b t) (fun ρ μ => runSs T b bs ρ μ) src k (i + 1) ρ2 μ2
          | .brk ρ2 μ2 => .nx ρ2 μ2
          | r => r
        | .err x ρ μ => .err x ρ μ
        | _ => .bad) := P'
    rcases sr'.turn R' i with h | ⟨h, hst⟩ | ⟨d, h, hgo, hy⟩
    · rw [h] at P'; exact False.elim P'
    · rw [h] at P'
      exact .inl ⟨hst, P' σ' H' m' (Evo.refl m' H') R' V'⟩
    · rw [h] at P'
      refine .inr ⟨hgo, _, fun σ'' H'' hw => ⟨k, Nat.lt_succ_self k, hw⟩, fun x H'' y => ?_⟩
      obtain ⟨sm, rx⟩ := hy x H'' y
      have EG := Evo.grow (m := m') sm
      have P' := PostS.shift EG P'
      refine ⟨S, B, m', μ', ρ', d, hB, R'.grow sm, V'.evo EG, rx, ?_⟩
      cases q : asg T b t d ρ' μ' with
      | nx ρ1 μ1 =>
        have P' : PostS G S B W m' H'' D (match asg T b t d ρ' μ' with
          | .nx ρ1 μ1 => match runSs T b bs ρ1 μ1 with
            | .nx ρ2 μ2 => forLoop (asg T b t) (fun ρ μ => runSs T b bs ρ μ) src k (i + 1) ρ2 μ2
            | .ct ρ2 μ2 => forLoop (asg T b t) (fun ρ μ => runSs T b bs ρ μ) src k (i + 1) ρ2 μ2
            | .brk ρ2 μ2 => .nx ρ2 μ2
            | r => r
          | .err x ρ μ => .err x ρ μ
          | _ => .bad) := P'
        rw [q] at P'
        intro σ2 H2 m2 e2 R2 V2
        refine ⟨S, B, m2, μ1, ρ1, hB, R2, V2, ?_⟩
        have P' := PostS.shift e2 P'
        have sr2 := (sr'.imp (fun _ _ => EG.at) (evo_hk EG)).imp (fun _ _ => e2.at) (evo_hk e2)
        have P' : PostS G S B W m2 H2 D (match runSs T b bs ρ1 μ1 with
            | .nx ρ2 μ2 => forLoop (asg T b t) (fun ρ μ => runSs T b bs ρ μ) src k (i + 1) ρ2 μ2
            | .ct ρ2 μ2 => forLoop (asg T b t) (fun ρ μ => runSs T b bs ρ μ) src k (i + 1) ρ2 μ2
            | .brk ρ2 μ2 => .nx ρ2 μ2
            | r => r) := P'
        cases q2 : runSs T b bs ρ1 μ1 with
        | nx ρ3 μ3 => rw [q2] at P'; exact fun σ3 H3 m3 e3 R3 V3 => ⟨m3, μ3, ρ3, R3, V3, sr2.imp (fun _ _ => e3.at) (evo_hk e3), PostS.shift e3 P'⟩
        | ct ρ3 μ3 => rw [q2] at P'; exact fun σ3 H3 m3 e3 R3 V3 => ⟨m3, μ3, ρ3, R3, V3, sr2.imp (fun _ _ => e3.at) (evo_hk e3), PostS.shift e3 P'⟩
        | brk ρ3 μ3 => rw [q2] at P'; exact P'
        | ret d f μ3 => rw [q2] at P'; exact P'
        | err x ρ3 μ3 => rw [q2] at P'; exact P'
        | bad => rw [q2] at P'; exact P'
      | err x ρ1 μ1 => simp only [q] at P'; exact P'
      | _ => simp only [q] at P'; exact False.elim P'
theorem s_while {c : Expr} {body : List Stmt} {ec : E} {bs : Ss} {p : Pos} (hwh : ∀ f, T.wh f ≠ .bad → ∃ n, f n = T.wh f) (hp : PassesOwn (model X.prog X.w) X.A X.env X.xe) (hc : PT X c (tT G T b W ec)) (hb : PSs X body (tSs G T b W bs)) : PS X (.While c body [] p) (tS G T b W (.while_ ec bs)) := by
  refine (ps_while hp hc hb).mono fun D σ H ⟨S, B, m, μ, ρ, hB, R, VV, P⟩ => ?_
  have P : PostS G S B W m H D (T.wh fun n => whLoop (fun ρ μ => tst (evE T b ec ρ μ)) (fun ρ μ => runSs T b bs ρ μ) n ρ μ) := P
  obtain ⟨n, hn⟩ := hwh (fun n => whLoop (fun ρ μ => tst (evE T b ec ρ μ)) (fun ρ μ => runSs T b bs ρ μ) n ρ μ) fun z => by rw [z] at P; exact P
  rw [← hn] at P
  refine ⟨fun k σ' H' => ∃ m' μ' ρ', Rep G S B m' μ' H' ∧ EnvR G (av S m') m' H' σ' ρ' ∧ PostS G S B W m' H' D (whLoop (fun ρ μ => tst (evE T b ec ρ μ)) (fun ρ μ => runSs T b bs ρ μ) k ρ' μ'), ⟨n, m, μ, ρ, R, VV, P⟩, ?_⟩
  rintro k σ' H' ⟨m', μ', ρ', R', V', P'⟩
  cases k with
  | zero => exact False.elim P'
  | succ k =>
    refine ⟨S, B, m', μ', ρ', hB, R', V', ?_⟩
    refine stT V' P' fun t μ1 H1 m1 e1 R1 P1 => ?_
    cases t with
    | false => exact iteF (P1 σ' H1 m1 (Evo.refl m1 H1) R1 (V'.evo e1))
    | true =>
      refine iteT ⟨_, fun σ'' H'' hw => ⟨k, Nat.lt_succ_self k, hw⟩, S, B, m1, μ1, ρ', hB, R1, V'.evo e1, ?_⟩
      have P1 : PostS G S B W m1 H1 D (match runSs T b bs ρ' μ1 with
        | .nx ρ2 μ2 => whLoop (fun ρ μ => tst (evE T b ec ρ μ)) (fun ρ μ => runSs T b bs ρ μ) k ρ2 μ2
        | .ct ρ2 μ2 => whLoop (fun ρ μ => tst (evE T b ec ρ μ)) (fun ρ μ => runSs T b bs ρ μ) k ρ2 μ2
        | .brk ρ2 μ2 => .nx ρ2 μ2
        | r => r) := P1
      cases q2 : runSs T b bs ρ' μ1 with
      | nx ρ3 μ3 => rw [q2] at P1; exact fun σ3 H3 m3 e3 R3 V3 => ⟨m3, μ3, ρ3, R3, V3, PostS.shift e3 P1⟩
      | ct ρ3 μ3 => rw [q2] at P1; exact fun σ3 H3 m3 e3 R3 V3 => ⟨m3, μ3, ρ3, R3, V3, PostS.shift e3 P1⟩
      | brk ρ3 μ3 => rw [q2] at P1; exact P1
      | ret d f μ3 => rw [q2] at P1; exact P1
      | err x ρ3 μ3 => rw [q2] at P1; exact P1
      | bad => rw [q2] at P1; exact P1
end
end VM

set_option Elab.async false
set_option maxRecDepth 100000
set_option autoImplicit false
set_option linter.unusedVariables false
/-! every statement -/
namespace VM
open PySem PySem.Spec PyProof.Rows L2
section
variable {X : Cx} {G : Gb} {Tx : Tr} {T : Tb} {b : Nat} {W : L2.WX}
structure GoodS (X : Cx) (T : Tb) (W : L2.WX) : Prop where
  fn : ∀ x, X.fn x = true
  own : PassesOwn (model X.prog X.w) X.A X.env X.xe
  tk : Takes X W
  wh : ∀ f, T.wh f ≠ .bad → ∃ n, f n = T.wh f
theorem sw_none {e : Expr} {t : Option Expr} {l : Nat} {env : Env} (h : isLc e = false) : swapsWith e t l env = pure false := by
  cases e <;> first | rfl | cases h
theorem sw_notName {e t : Expr} {l : Nat} {env : Env} (h : ∀ x p, t ≠ .Name x p) : swapsWith e (some t) l env = pure false := by
  cases t with
  | Name x p => exact absurd rfl (h x p)
  | _ => cases e <;> rfl
theorem sw_cell {e : Expr} {x : Str} {p : Pos} {l : Nat} {env : Env} (h : env.scope.names.lookup x = some .cell) : swapsWith e (some (.Name x p)) l env = pure false := by
  have hk : env.kindOf x = some .cell := h
  by_cases hl : isLc e = false
  · exact sw_none hl
  · have key : ∀ (pp : Pos) (scope : Scope), (pure (env.blockKind == .function && env.kindOf x == some .local && p.line == pp.line && !(scope.names.any fun (n, k) => n == x && (k == .local || k == .cell))) : Sem Bool) = pure false := by
      intro pp scope
      rw [hk]
      have : ((some NameKind.cell == some NameKind.local) : Bool) = false := by decide
      rw [this]; simp
    cases e <;> first | exact absurd rfl hl | skip
    · exact key _ _
    · exact key _ _
    · exact key _ _
theorem block_fn {env : Env} (h : env.scope.kind = .function) : (env.blockKind != .function) = false := by
  unfold Env.blockKind; rw [h]; rfl
theorem ss_noTup {t e : Expr} {env : Env} (h : isTup t = false ∨ isTup e = false) (h2 : ∀ es p, t ≠ .List es p) : swappedStores [t] e env = pure none := by
  cases t with
  | List es p => exact absurd rfl (h2 es p)
  | Tuple ts k p =>
    rcases h with h | h
    · cases h
    · cases e <;> first | rfl | cases h
  | _ => cases e <;> rfl
theorem ss_notAll {ts es : List Expr} {k k2 : Nat} {p p2 : Pos} {env : Env} (h : ts.all (locName env.scope.names (lineOf ts)) = false) : swappedStores [.Tuple ts k p] (.Tuple es k2 p2) env = pure none := by
  show (if (!(ts.length == 2 || ts.length == 3) || es.length != ts.length || env.blockKind != .function) = true then pure none else _) = (pure none : Sem (Option (List Str)))
  split
  · rfl
  · split
    · rfl
    · have hlen : ∀ (l : Nat) (ts : List Expr), ts.all (locName env.scope.names l) = false → ((ts.filterMap fun | .Name id pos => if (env.kindOf id == some .local && pos.line == l) = true then some id else none | _ => none).length != ts.length) = true := by
        intro l ts
        induction ts with
        | nil => intro h; cases h
        | cons t ts ih =>
          intro h
          rw [List.all_cons, Bool.and_eq_false_iff] at h
          have le := List.length_filterMap_le (fun | Expr.Name id pos => if (env.kindOf id == some .local && pos.line == l) = true then some id else none | _ => none) ts
          rw [List.filterMap_cons]
          rcases h with h | h
          · have hn : (match t with | Expr.Name id pos => if (env.kindOf id == some .local && pos.line == l) = true then some id else none | _ => none) = none := by
              cases t with
              | Name x q =>
                have h : (env.kindOf x == some .local && q.line == l) = false := h
                show (if (env.kindOf x == some .local && q.line == l) = true then some x else none) = none
                rw [h]; rfl
              | _ => rfl
            rw [hn]
            simp only [List.length_cons, bne_iff_ne, ne_eq]
            omega
          · have := ih h
            simp only [bne_iff_ne, ne_eq] at this
            split <;> simp only [List.length_cons, bne_iff_ne, ne_eq] <;> omega
      have hl : (ts.head?.map (·.pos.line)).getD 0 = lineOf ts := by cases ts <;> rfl
      have := hlen (lineOf ts) ts h
      show (if _ then pure none else _) = _
      rw [if_pos]
      rw [Bool.or_eq_true]
      left
      rw [hl]
      exact this
theorem ss_par {x y : Str} {a c : Expr} {px py pt pt2 : Pos} {kt k2 : Nat} {env : Env} (hk : env.scope.kind = .function) (hx : env.scope.names.lookup x = some .local) (hy : env.scope.names.lookup y = some .local) (hl : py.line = px.line) (hxy : x ≠ y) (ha : isStar a = false) (hc : isStar c = false)
    (h1 : [a, c].all (foldedForSure 8) = false) (h2 : [a, c].all (constantsAlone 8) = false) : swappedStores [.Tuple [.Name x px, .Name y py] kt pt] (.Tuple [a, c] k2 pt2) env = pure (some [x, y]) := by
  have kx : env.kindOf x = some .local := hx
  have ky : env.kindOf y = some .local := hy
  unfold swappedStores
  simp only [List.length_cons, List.length_nil, List.any_cons, List.any_nil, block_fn hk, List.head?_cons, Option.map_some, Option.getD_some, List.filterMap_cons, List.filterMap_nil, kx, ky, Expr.pos, hl]
  have e1 : ([x, y] : List Str).eraseDups.length = 2 := by
    have : (y == x) = false := by rw [beq_eq_false_iff_ne]; exact fun z => hxy z.symm
    simp [List.eraseDups_cons, this]
  simp [e1, h1, h2]
  rintro (h | h)
  · cases a <;> first | (cases ha; done) | cases h
  · cases c <;> first | (cases hc; done) | cases h
theorem gT_name (Gd : Good X G Tx T) (Gs : GoodS X T W) {x : Str} {p : Pos} : PG X (.Name x p) (tTg G T b W (trN Tx 60 X.env.scope.names (.Name x p))) := by
  unfold trN
  show PG X _ (tTg G T b W (if X.env.scope.names.lookup x == some .local || X.env.scope.names.lookup x == some .cell then (match slotOf Tx.N x with | some i => .name i | none => .bad) else .bad))
  split
  · rename_i hk
    cases hs : slotOf Tx.N x with
    | none => exact g_bad
    | some i =>
      rw [Bool.or_eq_true] at hk
      refine g_name Gd.nd (by rw [Gd.eqN]; exact slot_at hs) ?_ (.inl (Gs.fn x))
      rcases hk with hk | hk
      · exact .inl (by simpa using hk)
      · exact .inr (by simpa using hk)
  · exact g_bad
theorem gT_names (Gd : Good X G Tx T) (Gs : GoodS X T W) : ∀ (n : Nat) (e : Expr), PG X e (tTg G T b W (trN Tx n X.env.scope.names e))
  | 0, e => by unfold trN; exact g_bad
  | n + 1, e => by
    cases e with
    | Name x p => exact gT_name Gd Gs
    | Tuple es k p =>
      unfold trN
      show PG X _ (tTg G T b W (if es.any isStar then .bad else _))
      split
      · exact g_bad
      · rename_i hk
        exact g_tup Gd.calm (by simpa using hk) fun e _ => gT_names Gd Gs n e
    | _ => unfold trN; exact g_bad
theorem gT_sub (Gd : Good X G Tx T) (Gs : GoodS X T W) {o i : Expr} {p : Pos} : PG X (.Subscript o i p) (tTg G T b W (if isSlice i then .bad else .sub (trE Tx 60 X.env.scope.names o) (trE Tx 60 X.env.scope.names i))) := by
  split
  · exact g_bad
  · rename_i h
    exact g_sub (by simpa using h) ((okN 60).e Gd Gs.tk o) ((okN 60).e Gd Gs.tk i)
theorem gT_any (Gd : Good X G Tx T) (Gs : GoodS X T W) (e : Expr) : PG X e (tTg G T b W (trAsg.trT' Tx X.env.scope.names e)) := by
  cases e with
  | Name x p => exact gT_name Gd Gs
  | Subscript o i p => exact gT_sub Gd Gs
  | Tuple es k p =>
    show PG X _ (tTg G T b W (if es.any isStar then .bad else _))
    split
    · exact g_bad
    · rename_i hk
      refine g_tup Gd.calm (by simpa using hk) fun e _ => ?_
      cases e with
      | Name x p => exact gT_name Gd Gs
      | Subscript o i p => exact gT_sub Gd Gs
      | _ => exact g_bad
  | _ => exact g_bad
theorem s_setBad {t e : Expr} {p : Pos} {tg : Tg} : PS X (.Assign [t] e p) (tS G T b W (.set tg .bad)) := ⟨fun _ _ _ _ _ _ ⟨_, _, _, _, _, _, _, _, P⟩ => False.elim P⟩
theorem s_asgGen (Gd : Good X G Tx T) (Gs : GoodS X T W) {t e : Expr} {p : Pos} (h1 : isStar t = false) (h2 : isListE t = false) (h3 : isTup t = false ∨ isTup e = false) (h4 : isLc e = false ∨ (∀ x q, t ≠ .Name x q) ∨ ∃ x q, t = .Name x q ∧ X.env.scope.names.lookup x = some .cell) :
    PS X (.Assign [t] e p) (tS G T b W (.set (trAsg.trT' Tx X.env.scope.names t) (trE Tx 60 X.env.scope.names e))) := by
  refine s_asg ((okN 60).e Gd Gs.tk e) (gT_any Gd Gs t) ?_ (ss_noTup h3 fun es q z => by subst z; cases h2) h1
  show swapsWith e (some t) p.line X.env = pure false
  rcases h4 with h | h | ⟨x, q, rfl, h⟩
  · exact sw_none h
  · exact sw_notName h
  · exact sw_cell h
theorem s_asgLc (Gd : Good X G Tx T) (Gs : GoodS X T W) {x : Str} {i : Nat} {p p2 spos : Pos} {elt : Expr} {gs : List Comprehension} {scope : Scope} (hx : X.env.scope.names.lookup x = some .local) (hl : p.line = p2.line) (ha : (scope.names.any fun y => y.1 == x && (y.2 == .local || y.2 == .cell)) = false) (hs : slotOf Tx.N x = some i) :
    PS X (.Assign [.Name x p] (.ListComp elt gs scope p2) spos) (tS G T b W (.set (.name i) (trE Tx 60 X.env.scope.names (.ListComp elt gs scope p2)))) := by
  match gs with
  | [] => exact s_setBad
  | ⟨_, _, _, _⟩ :: _ :: _ => exact s_setBad
  | [⟨tg, it, ifs, a⟩] =>
    unfold trE
    show PS X _ (tS G T b W (.set _ (if a = 0 then _ else .bad)))
    by_cases h0 : a = 0
    · subst h0
      rw [if_pos rfl]
      split
      · rename_i hc
        have L := lc_parts (b := b) (ifs := ifs) (elt := elt) Gd (okN 59) hc
        exact s_setLc Gd.eqK Gd.calm Gd.nd Gd.kind (by rw [Gd.eqN]; exact slot_at hs) hx (by simpa using hl) ha ((okN 59).i Gd Gs.tk tg it) L fun σ H Q q => with_imp q
      · exact s_setBad
    · rw [if_neg h0]; exact s_setBad
theorem s_asgAny (Gd : Good X G Tx T) (Gs : GoodS X T W) (t e : Expr) (p : Pos) : PS X (.Assign [t] e p) (tS G T b W (trAsg Tx X.env.scope.names t e)) := by
  have gen : isTup t = false ∨ isTup e = false → (isLc e = false ∨ ∀ x q, t ≠ .Name x q) → PS X (.Assign [t] e p) (tS G T b W (if isStar t || isListE t then .bad else .set (trAsg.trT' Tx X.env.scope.names t) (trE Tx 60 X.env.scope.names e))) := by
    intro h3 h4
    split
    · exact ps_bad
    · rename_i h
      rw [Bool.or_eq_true, not_or] at h
      exact s_asgGen Gd Gs (by simpa using h.1) (by simpa using h.2) h3 (h4.elim .inl fun z => .inr (.inl z))
  cases t with
  | Tuple ts k q =>
    cases e with
    | Tuple es k2 q2 =>
      show PS X _ (tS G T b W (if ts.all (locName X.env.scope.names (lineOf ts)) then _ else _))
      split
      · rename_i hall
        split
        · rename_i x px y py a c
          split
          · exact ps_bad
          · rename_i hh
            simp only [Bool.or_eq_true, not_or, Bool.not_eq_true] at hh
            obtain ⟨⟨⟨⟨h1, h2⟩, h3⟩, h4⟩, h5⟩ := hh
            have hxy : x ≠ y := by simpa using h1
            have hall : (locName X.env.scope.names px.line (.Name x px) && (locName X.env.scope.names px.line (.Name y py) && true)) = true := hall
            rw [Bool.and_true, Bool.and_eq_true] at hall
            have hx : (X.env.scope.names.lookup x == some .local && px.line == px.line) = true := hall.1
            have hy : (X.env.scope.names.lookup y == some .local && py.line == px.line) = true := hall.2
            rw [Bool.and_eq_true] at hx hy
            have hx1 := beq_iff_eq.mp hx.1
            have hy1 := beq_iff_eq.mp hy.1
            cases hs1 : slotOf Tx.N x with
            | none => exact ps_bad
            | some i =>
              cases hs2 : slotOf Tx.N y with
              | none => exact ps_bad
              | some j =>
                exact s_par Gd.calm Gd.nd (by rw [Gd.eqN]; exact slot_at hs1) (by rw [Gd.eqN]; exact slot_at hs2) hxy hx1 hy1 h2 h3 ((okN 60).e Gd Gs.tk a) ((okN 60).e Gd Gs.tk c) (ss_par Gd.kind hx1 hy1 (by simpa using hy.2) hxy h2 h3 h4 h5)
        · exact ps_bad
      · rename_i hall
        refine s_asg ((okN 60).e Gd Gs.tk _) (gT_any Gd Gs _) (show swapsWith (.Tuple es k2 q2) (some (.Tuple ts k q)) p.line X.env = pure false from sw_none rfl) (ss_notAll (by simpa using hall)) rfl
    | _ => exact gen (.inr rfl) (.inr fun x q z => by cases z)
  | Name x q =>
    cases e with
    | ListComp elt gs scope p2 =>
      show PS X _ (tS G T b W (if X.env.scope.names.lookup x == some .cell then _ else _))
      split
      · rename_i h
        exact s_asgGen Gd Gs rfl rfl (.inl rfl) (.inr (.inr ⟨x, q, rfl, by simpa using h⟩))
      · split
        · rename_i h
          simp only [Bool.and_eq_true, Bool.not_eq_true', beq_iff_eq] at h
          cases hs : slotOf Tx.N x with
          | none => exact ps_bad
          | some i => exact s_asgLc Gd Gs h.1.1 h.1.2 (by simpa using h.2) hs
        · exact ps_bad
    | SetComp elt gs scope p2 => exact s_setBad
    | DictComp a elt gs scope p2 => exact s_setBad
    | _ => exact gen (.inl rfl) (.inl rfl)
  | _ => exact gen (.inl rfl) (.inr fun x q z => by cases z)
theorem s_any (Gd : Good X G Tx T) (Gs : GoodS X T W) : ∀ (n : Nat) (st : Stmt), PS X st (tS G T b W (trS Tx X.env.scope.names n st))
  | 0, st => by unfold trS; exact ps_bad
  | n + 1, st => by
    have ih := s_any Gd Gs n
    have all : ∀ (l : List Stmt), PSs X l (tSs G T b W (ssOf (l.map (trS Tx X.env.scope.names n)))) := by
      intro l
      induction l with
      | nil => exact ss_nil
      | cons x l ihl => exact ss_cons (ih x) ihl
    have eT := okN (G := G) (Tx := Tx) (T := T) (b := b) 60
    cases st with
    | Assign ts e p =>
      unfold trS
      match ts with
      | [t] => exact s_asgAny Gd Gs t e p
      | [] => exact ps_bad
      | _ :: _ :: _ => exact ps_bad
    | Expr e p =>
      have gen : PS X (.Expr e p) (tS G T b W (if isLc e then .bad else .expr (trE Tx 60 X.env.scope.names e))) := by
        split
        · exact ps_bad
        · rename_i h; exact s_expr (by simpa using h) (eT.e Gd Gs.tk e)
      unfold trS
      cases e with
      | Constant c k q =>
        cases c with
        | str x => exact s_doc
        | _ => exact gen
      | _ => exact gen
    | Return e p =>
      cases e with
      | none => unfold trS; exact s_retn
      | some e => unfold trS; exact s_ret (eT.e Gd Gs.tk e)
    | If t x y p => unfold trS; exact s_if (eT.t Gd Gs.tk t) (all x) (all y)
    | For t it x y p =>
      unfold trS
      show PS X _ (tS G T b W (if y.isEmpty && !isSet it then _ else .bad))
      split
      · rename_i h
        rw [Bool.and_eq_true] at h
        have hy : y = [] := by simpa using h.1
        subst hy
        exact s_for Gd.eqK Gs.own Gd.calm (eT.i Gd Gs.tk t it) (gT_names Gd Gs 60 t) (all x) (fold_plain (by simpa using h.2))
      · exact ps_bad
    | While t x y p =>
      unfold trS
      show PS X _ (tS G T b W (if y.isEmpty then _ else .bad))
      split
      · rename_i h
        have hy : y = [] := by simpa using h
        subst hy
        exact s_while Gs.wh Gs.own (eT.t Gd Gs.tk t) (all x)
      · exact ps_bad
    | Pass p => unfold trS; exact s_pass
    | Break p => unfold trS; exact s_brk
    | Continue p => unfold trS; exact s_cnt
    | _ => unfold trS; exact ps_bad
end
end VM

set_option Elab.async false
set_option maxRecDepth 100000
set_option autoImplicit false
set_option linter.unusedVariables false
/-! the way out of a def -/
namespace VM
open PySem PySem.Spec PyProof.Rows L2
section
variable {G : Gb} {S : AP_} {B : Nat → Prop} {m m' m0 : List Addr} {μ μ' : Sto} {H H' : Hp}
mutual
theorem RV.bel {A : AP_} : ∀ {v : V} {d : D}, RV G A m H v d → below m.length d
  | _, _, .non => by unfold VM.below; trivial
  | _, _, .bl b => by unfold VM.below; trivial
  | _, _, .int i => by unfold VM.below; trivial
  | _, _, .str s => by unfold VM.below; trivial
  | _, _, .ty n => by unfold VM.below; trivial
  | _, _, .fn g => by unfold VM.below; trivial
  | _, _, .lst r n t => by unfold VM.below; exact RVs.bel t
  | _, _, .tup r n t => by unfold VM.below; exact RVs.bel t
  | _, _, .cell e => by unfold VM.below; exact (List.getElem?_eq_some_iff.mp e).1
  | _, _, .scr h => by unfold VM.below; trivial
theorem RVs.bel {A : AP_} : ∀ {vs : List V} {ds : List D}, RVs G A m H vs ds → belowL m.length ds
  | _, _, .nil => by unfold VM.belowL; trivial
  | _, _, .cons r t => by unfold VM.belowL; exact ⟨RV.bel r, RVs.bel t⟩
end
theorem below_mono {a b : Nat} (h : a ≤ b) : ∀ (n : Nat) (d : D), sizeOf d < n → below a d → below b d
  | 0, _, z, _ => absurd z (Nat.not_lt_zero _)
  | n + 1, d, z, k => by
    cases d with
    | cell l => exact Nat.lt_of_lt_of_le k h
    | lst xs => 
      unfold below at k ⊢
      rw [belowL_iff] at k ⊢
      exact fun x hx => below_mono h n x (by have := List.sizeOf_lt_of_mem hx; simp at z; omega) (k x hx)
    | tup xs =>
      unfold below at k ⊢
      rw [belowL_iff] at k ⊢
      exact fun x hx => below_mono h n x (by have := List.sizeOf_lt_of_mem hx; simp at z; omega) (k x hx)
    | _ => unfold below; trivial
theorem RVs.mem {A : AP_} : ∀ {vs : List V} {ds : List D} {d : D}, RVs G A m H vs ds → d ∈ ds → ∃ v, RV G A m H v d
  | _, _, _, .nil, e => by simp at e
  | _, _, _, .cons r t, e => by
    rcases List.mem_cons.mp e with rfl | e
    · exact ⟨_, r⟩
    · exact RVs.mem t e
theorem CR.below {A : AP_} {a : Addr} {c : C} (r : CR G A m H a c) : cBelow m.length c := by
  cases c with
  | lst ds => obtain ⟨vs, e, t⟩ := r; exact t.bel
  | dct kvs =>
    obtain ⟨ks, e, k, t⟩ := r
    intro p hp
    obtain ⟨v, q⟩ := t.mem (List.mem_map_of_mem hp)
    exact q.bel
  | ins c fs =>
    obtain ⟨x, y, z, g, e, k, t⟩ := r
    intro p hp
    obtain ⟨v, q⟩ := t.mem (List.mem_map_of_mem hp)
    exact q.bel
theorem Rep.enter (R : Rep G S B m μ H) : Rep G S (fun x => B x ∨ x = μ.length) m μ H :=
  ⟨R.len, R.nd, R.at_, fun x hx => by
    rcases hx with hx | rfl
    · exact R.lev x hx
    · refine ⟨Nat.le_refl _, fun l c hl h => ?_⟩
      have hl' : l < m.length := by rw [R.len]; exact hl
      have := (R.at_ l m[l] c (List.getElem?_eq_getElem hl') h).below
      rw [R.len] at this; exact this, R.trk⟩
mutual
theorem RV.impB {A A' : AP_} {n : Nat} (hm : ∀ (l : Nat) (a : Addr), l < n → m[l]? = some a → m'[l]? = some a) (hk : ∀ a o, H a = some o → ¬ A a → H' a = some o ∧ ¬ A' a) :
    ∀ {v : V} {d : D}, RV G A m H v d → VM.below n d → RV G A' m' H' v d
  | _, _, .non, _ => .non
  | _, _, .bl b, _ => .bl b
  | _, _, .int i, _ => .int i
  | _, _, .str s, _ => .str s
  | _, _, .ty n, _ => .ty n
  | _, _, .fn g, _ => .fn g
  | _, _, .lst (a := a) r n t, b => by
    unfold VM.below at b
    rcases r with r | ⟨o, r⟩
    · exact .lst (.inl (hk _ _ r n).1) (hk _ _ r n).2 (RVs.impB hm hk t b)
    · exact .lst (.inr ⟨o, (hk _ _ r n).1⟩) (hk _ _ r n).2 (RVs.impB hm hk t b)
  | _, _, .tup r n t, b => by
    unfold VM.below at b
    exact .tup (hk _ _ r n).1 (hk _ _ r n).2 (RVs.impB hm hk t b)
  | _, _, .cell e, b => .cell (hm _ _ b e)
  | _, _, .scr h, _ => by
    rcases h with ⟨r | ⟨o, r⟩, n⟩ | h
    · exact .scr (.inl ⟨.inl (hk _ _ r n).1, (hk _ _ r n).2⟩)
    · exact .scr (.inl ⟨.inr ⟨o, (hk _ _ r n).1⟩, (hk _ _ r n).2⟩)
    · exact .scr (.inr h)
theorem RVs.impB {A A' : AP_} {n : Nat} (hm : ∀ (l : Nat) (a : Addr), l < n → m[l]? = some a → m'[l]? = some a) (hk : ∀ a o, H a = some o → ¬ A a → H' a = some o ∧ ¬ A' a) :
    ∀ {vs : List V} {ds : List D}, RVs G A m H vs ds → VM.belowL n ds → RVs G A' m' H' vs ds
  | _, _, .nil, _ => .nil
  | _, _, .cons r t, b => by
    unfold VM.belowL at b
    exact .cons (RV.impB hm hk r b.1) (RVs.impB hm hk t b.2)
end
theorem RVs.impM {A A' : AP_} {n : Nat} {fs : List D} (hm : ∀ (l : Nat) (a : Addr), l < n → m[l]? = some a → m'[l]? = some a) (hk : ∀ a o, H a = some o → ¬ A a → H' a = some o ∧ ¬ A' a) {vs : List V}
    (t : RVs G A m H vs fs) (b : ∀ d ∈ fs, VM.below n d) : RVs G A' m' H' vs fs := t.impB hm hk (belowL_iff.mpr b)
theorem CR.impB {A A' : AP_} {a : Addr} {c : C} {n : Nat} (hm : ∀ (l : Nat) (a : Addr), l < n → m[l]? = some a → m'[l]? = some a) (hk : ∀ a o, H a = some o → ¬ A a → H' a = some o ∧ ¬ A' a)
    (ha : ∀ o, H a = some o → H' a = some o) (r : CR G A m H a c) (b : cBelow n c) : CR G A' m' H' a c := by
  cases c with
  | lst ds => obtain ⟨vs, e, t⟩ := r; exact ⟨vs, ha _ e, t.impB hm hk b⟩
  | dct kvs =>
    obtain ⟨ks, e, k, t⟩ := r
    refine ⟨ks, ha _ e, k, t.impM hm hk fun d hd => ?_⟩
    obtain ⟨p, hp, rfl⟩ := List.mem_map.mp hd
    exact b p hp
  | ins c fs =>
    obtain ⟨x, y, z, g, e, k, t⟩ := r
    refine ⟨x, y, z, g, ha _ e, k, t.impM hm hk fun d hd => ?_⟩
    obtain ⟨p, hp, rfl⟩ := List.mem_map.mp hd
    exact b p hp
theorem Rep.cut {n : Nat} (R : Rep G S (fun x => B x ∨ x = n) m μ H) (hB : ∀ x, B x → x ≤ n) : Rep G S B (m.take n) (μ.take n) H := by
  have hn := R.lev n (.inr rfl)
  have hsub : ∀ a, a ∈ m.take n → a ∈ m := fun a h => List.mem_of_mem_take h
  refine ⟨by rw [List.length_take, List.length_take, R.len], R.nd.sublist (List.take_sublist n m), fun l a c h1 h2 => ?_, fun x hx => ?_, fun a z => ⟨(R.trk a z).1, fun w => (R.trk a z).2 (hsub a w)⟩⟩
  · rw [List.getElem?_take] at h1 h2
    split at h1
    · rename_i hl
      rw [if_pos hl] at h2
      exact (R.at_ l a c h1 h2).impB (n := n) (fun k b hk e => by rw [List.getElem?_take, if_pos hk]; exact e) (fun b o e z => ⟨e, fun w => z (w.elim .inl fun w => .inr (hsub b w))⟩) (fun _ e => e) (hn.2 l c hl h2)
    · cases h1
  · have h1 := R.lev x (.inl hx)
    refine ⟨by rw [List.length_take]; have := hB x hx; have := h1.1; omega, fun l c hl h2 => ?_⟩
    rw [List.getElem?_take] at h2
    split at h2
    · exact h1.2 l c hl h2
    · cases h2
theorem frz_list {A A' : AP_} {f : D → Option D} (ih : ∀ (v : V) (d d' : D), f d = some d' → RV G A m H v d → RV G A' m0 H v d') : ∀ {vs : List V} {ds ds' : List D}, ds.mapM f = some ds' → RVs G A m H vs ds → RVs G A' m0 H vs ds'
  | _, _, _, e, .nil => by rw [mapM_nil e]; exact .nil
  | _, _, _, e, .cons r t => by
    obtain ⟨y, zs, h1, h2, rfl⟩ := mapM_cons e
    exact .cons (ih _ _ _ h1 r) (frz_list ih h2 t)
theorem frz_gen {A A' : AP_} {n : Nat} (hdat : ∀ a o, H a = some o → ¬ A a → ¬ A' a) (hcell : ∀ (l : Nat) (a : Addr) (xs : List D), n ≤ l → m[l]? = some a → μ[l]? = some (.lst xs) → ¬ A' a ∧ ∃ vs, H a = some (.lst vs) ∧ RVs G A m H vs xs)
    (hm : ∀ (l : Nat) (a : Addr), l < n → m[l]? = some a → m0[l]? = some a) : ∀ (k : Nat) (v : V) (d d' : D), frz n μ k d = some d' → RV G A m H v d → RV G A' m0 H v d'
  | 0, _, _, _, h, _ => by cases h
  | k + 1, v, d, d', h, r => by
    have ih := frz_gen hdat hcell hm k
    cases r with
    | lst rr nn t =>
      obtain ⟨ys, h1, rfl⟩ := map_some h
      refine .lst rr ?_ (frz_list ih h1 t)
      rcases rr with rr | ⟨o, rr⟩
      · exact hdat _ _ rr nn
      · exact hdat _ _ rr nn
    | tup rr nn t =>
      obtain ⟨ys, h1, rfl⟩ := map_some h
      exact .tup rr (hdat _ _ rr nn) (frz_list ih h1 t)
    | @cell l a e =>
      have h : (if l < n then some (D.cell l) else match μ[l]? with | some (.lst xs) => (xs.mapM (frz n μ k)).map .lst | _ => none) = some d' := h
      split at h
      · rename_i hl; cases h; exact .cell (hm l a hl e)
      · rename_i hl
        split at h
        · rename_i xs hx
          obtain ⟨ys, h1, rfl⟩ := map_some h
          obtain ⟨na, vs, h2, t⟩ := hcell l a xs (Nat.le_of_not_lt hl) e hx
          exact .lst (.inl h2) na (frz_list ih h1 t)
        · cases h
    | scr hh =>
      cases h
      rcases hh with ⟨rr | ⟨o, rr⟩, nn⟩ | hh
      · exact .scr (.inl ⟨.inl rr, hdat _ _ rr nn⟩)
      · exact .scr (.inl ⟨.inr ⟨o, rr⟩, hdat _ _ rr nn⟩)
      · exact .scr (.inr hh)
    | non => cases h; exact .non
    | bl b => cases h; exact .bl b
    | int i => cases h; exact .int i
    | str s => cases h; exact .str s
    | ty x => cases h; exact .ty x
    | fn g => cases h; exact .fn g
end
section
variable {G : Gb} {S : AP_} {B : Nat → Prop} {m m' : List Addr} {μ μ' : Sto} {H H' : Hp} {E : XK} {Q : VK}
theorem Evo.cut (e : Evo m H m' H') : m'.take m.length = m := by
  obtain ⟨x, rfl⟩ := e.ext; simp
theorem Evo.back (e : Evo m H m' H') : Evo m H m H' := ⟨⟨[], by simp⟩, fun a o h n => ⟨(e.keep a o h n).1, n⟩, e.dom⟩
theorem Evo.newCell (e : Evo m H m' H') (nd : m'.Nodup) {l : Nat} {a : Addr} (hl : m.length ≤ l) (h : m'[l]? = some a) : H a = none ∧ a ∉ m ∧ a ∈ m' := by
  have ha : a ∈ m' := List.mem_of_getElem? h
  have hn : a ∉ m := by
    intro z
    obtain ⟨k, hk, e2⟩ := List.getElem_of_mem z
    have h2 := e.at (show m[k]? = some a by rw [List.getElem?_eq_getElem hk, e2])
    have := nodup_at nd h2 h
    omega
  refine ⟨?_, hn, ha⟩
  cases q : H a with
  | none => rfl
  | some o => exact absurd ha (e.keep a o q hn).2
/-- what is handed out, and that it is new -/
theorem fin_ok {n : Nat} {v : V} {d : D} {f : Nat} (hn : n = m.length) (e : Evo m H m' H') (R : Rep G S (fun x => B x ∨ x = n) m' μ' H') (r : RV G (av S m') m' H' v d) (nw : NWP f G S H m' μ' H' v d) {x : D × Nat} (h : frzTop n d f μ' = some x) :
    RV G (av S m) m H' v x.1 ∧ NWP x.2 G S H m (μ'.take n) H' v x.1 := by
  have hmem : ∀ a, a ∈ m → a ∈ m' := fun a z => by obtain ⟨y, rfl⟩ := e.ext; exact List.mem_append_left _ z
  have hm : ∀ (l : Nat) (a : Addr), l < n → m'[l]? = some a → m[l]? = some a := fun l a hl h => by
    obtain ⟨y, rfl⟩ := e.ext
    rw [List.getElem?_append_left (by omega)] at h; exact h
  have hdat : ∀ a o, H' a = some o → ¬ av S m' a → ¬ av S m a := fun a o _ z w => z (w.elim .inl fun w => .inr (hmem a w))
  have ncell : ∀ (l : Nat) (a : Addr), n ≤ l → m'[l]? = some a → ¬ av S m a := fun l a hl h z => by
    obtain ⟨_, h2, h3⟩ := e.newCell R.nd (by omega) h
    exact z.elim (fun z => (R.trk a z).2 h3) h2
  have hcell : ∀ (l : Nat) (a : Addr) (xs : List D), n ≤ l → m'[l]? = some a → μ'[l]? = some (.lst xs) → ¬ av S m a ∧ ∃ vs, H' a = some (.lst vs) ∧ RVs G (av S m') m' H' vs xs := fun l a xs hl h1 h2 => ⟨ncell l a hl h1, R.at_ l a _ h1 h2⟩
  have other : ∀ d, frzTop n d f μ' = (frz n μ' 9 d).map (fun d' => (d', f)) → RV G (av S m') m' H' v d → NWP f G S H m' μ' H' v d → frzTop n d f μ' = some x → RV G (av S m) m H' v x.1 ∧ NWP x.2 G S H m (μ'.take n) H' v x.1 := by
    intro d hd r nw h
    rw [hd] at h
    obtain ⟨d', h1, rfl⟩ := map_some h
    refine ⟨frz_gen hdat hcell hm 9 v d d' h1 r, ?_⟩
    rcases nw with nw | ⟨a, vs, ds, rfl, rfl, h0, h2, t, hk⟩
    · exact .inl nw
    · right
      obtain ⟨ys, h3, rfl⟩ := map_some (f := D.lst) (o := ds.mapM (frz n μ' 8)) h1
      have hdat2 : ∀ b o, H' b = some o → ¬ avx S m' a b → ¬ avx S m a b := fun b o hb z w => w.elim (fun w => z (.inl (w.elim .inl fun w => .inr (hmem b w)))) fun w => z (.inr w)
      have na : a ∉ m' := by
        cases r with
        | lst _ nn _ => exact fun z => nn (.inr z)
      refine ⟨a, vs, ys, rfl, rfl, h0, h2, frz_list (fun v d d' => frz_gen hdat2 (fun l b xs hl h1 h4 => ⟨fun z => z.elim (ncell l b hl h1) fun z => na (z ▸ List.mem_of_getElem? h1), ?_⟩) hm 8 v d d') h3 t, fun l b c hb hc => ?_⟩
      · exact hk l b _ h1 h4
      · have hl : l < n := by rw [hn]; exact (List.getElem?_eq_some_iff.mp hb).1
        rw [List.getElem?_take, if_pos hl] at hc
        exact (hk l b c (e.at hb) hc).impB (n := n) hm (fun y o e z => ⟨e, hdat2 y o e z⟩) (fun _ e => e) ((R.lev n (.inr rfl)).2 l c hl hc)
  cases d with
  | cell l =>
    cases r with
    | @cell _ a ha =>
      have h : (if l < n then some (D.cell l, 0) else match μ'[l]? with
        | some (.lst xs) => (xs.mapM (frz n (μ'.set l (.dct [])) 9)).map fun ys => (D.lst ys, 1)
        | _ => none) = some x := h
      split at h
      · rename_i hl
        cases h
        exact ⟨.cell (hm l a hl ha), .inl rfl⟩
      · rename_i hl
        have hl := Nat.le_of_not_lt hl
        split at h
        · rename_i xs hx
          obtain ⟨ys, h1, rfl⟩ := map_some h
          obtain ⟨vs, h2, t⟩ := R.at_ l a _ ha hx
          obtain ⟨h0, nm, im⟩ := e.newCell R.nd (by omega) ha
          have hdat2 : ∀ b o, H' b = some o → ¬ av S m' b → ¬ avx S m a b := fun b o hb z w => w.elim (hdat b o hb z) fun w => z (.inr (w ▸ im))
          have key : RVs G (avx S m a) m H' vs ys := frz_list (fun v d d' => frz_gen (μ := μ'.set l (.dct [])) hdat2 (fun k b zs hk h3 h4 => ?_) hm 9 v d d') h1 t
          · refine ⟨.lst (.inl h2) (ncell l a hl ha) (key.imp (fun _ _ e => e) fun b o h z => ⟨h, fun w => z (.inl w)⟩), .inr ⟨a, vs, ys, rfl, rfl, h0, h2, key, fun k b c hb hc => ?_⟩⟩
            have hk : k < n := by rw [hn]; exact (List.getElem?_eq_some_iff.mp hb).1
            rw [List.getElem?_take, if_pos hk] at hc
            exact (R.at_ k b c (e.at hb) hc).impB (n := n) hm (fun y o e z => ⟨e, hdat2 y o e z⟩) (fun _ e => e) ((R.lev n (.inr rfl)).2 k c hk hc)
          · by_cases hkl : k = l
            · subst hkl
              rw [List.getElem?_set_self (List.getElem?_eq_some_iff.mp hx).1] at h4; cases h4
            · rw [List.getElem?_set_ne (Ne.symm hkl)] at h4
              exact ⟨fun z => z.elim (ncell k b hk h3) fun z => hkl (nodup_at R.nd h3 (z ▸ ha)), R.at_ k b _ h3 h4⟩
        · cases h
  | lst xs => exact other _ rfl r nw h
  | tup xs => exact other _ rfl r nw h
  | non => exact other _ rfl r nw h
  | bl b => exact other _ rfl r nw h
  | int i => exact other _ rfl r nw h
  | str s => exact other _ rfl r nw h
  | ty n => exact other _ rfl r nw h
  | fn g => exact other _ rfl r nw h
  | scr ns => exact other _ rfl r nw h
abbrev WX0 (E : XK) : L2.WX := fun c d _ H => E c d H
theorem fin_cut {n : Nat} {v : V} {d : D} {f : Nat} (hn : n = m.length) (hB : ∀ x, B x → x ≤ n) (h : PostE G S B (WX0 E) m H [] Q (fin false n d f μ')) (e : Evo m H m' H') (R : Rep G S (fun x => B x ∨ x = n) m' μ' H') (r : RV G (av S m') m' H' v d) (nw : NWP f G S H m' μ' H' v d) : Q v H' := by
  have h : PostE G S B (WX0 E) m H [] Q (okR (frzTop n d f μ') (μ'.take n)) := h
  cases q : frzTop n d f μ' with
  | none => rw [q] at h; exact False.elim h
  | some x =>
    rw [q] at h
    obtain ⟨h1, h2⟩ := fin_ok hn e R r nw q
    have C := R.cut hB
    rw [hn, e.cut] at C
    rw [← hn] at C
    exact h v H' m e.back C h1 h2
theorem post_cut {n : Nat} {r : RS} (hn : n = m.length) (hB : ∀ x, B x → x ≤ n) (h : PostE G S B (WX0 E) m H [] Q (exitF false n r)) : PostS G S (fun x => B x ∨ x = n) (WX0 E) m H { nx := fun _ H' => Q .non H', rt := Q } r := by
  cases r with
  | nx ρ' μ' => exact fun σ' H' m' e R _ => fin_cut hn hB h e R .non (.inl rfl)
  | ret d f μ' => exact fun v H' m' e R r nw => fin_cut hn hB h e R r nw
  | brk ρ' μ' => exact False.elim h
  | ct ρ' μ' => exact False.elim h
  | err x ρ' μ' =>
    intro σ' c dd H' m' e R _ hx
    have C := R.cut hB
    rw [hn, e.cut] at C
    rw [← hn] at C
    exact h c dd H' m e.back C hx
  | bad => exact h
theorem post_keep {n : Nat} {r : RS} (h : PostE G S B (WX0 E) m H [] Q (exitF true n r)) : PostS G S B (WX0 E) m H { nx := fun _ H' => Q .non H', rt := Q } r := by
  cases r with
  | nx ρ' μ' => exact fun σ' H' m' e R _ => h .non H' m' e R .non (.inl rfl)
  | ret d f μ' => exact fun v H' m' e R r nw => h v H' m' e R r nw
  | brk ρ' μ' => exact False.elim h
  | ct ρ' μ' => exact False.elim h
  | err x ρ' μ' => exact fun σ' c dd H' m' e R _ hx => h c dd H' m' e R hx
  | bad => exact h
end
end VM

set_option Elab.async false
set_option maxRecDepth 100000
set_option autoImplicit false
set_option linter.unusedVariables false
/-! every def of a table keeps its promise -/
namespace VM
open PySem PySem.Spec PyProof.Rows L2
/-- a def of the text: its name, its text, its names (parameters first), whether cells outlive it, where new lists become cells -/
structure DI where
  x : Str
  st : Stmt
  N : List Str
  ps : List Str
  keep : Bool
  th : List (Nat × Nat × Nat)
def DI.tr (d : DI) (defs : List Str) : Tr := ⟨d.th, d.N, defs, false⟩
def DI.fn (defs : List Str) (d : DI) : Fn := ⟨d.ps.length, d.N.length, d.keep, trSs (d.tr defs) (defScope d.st).names (defBody d.st)⟩
def find (L : List DI) (f : Str) : Option DI := L.find? fun d => d.x == f
noncomputable def wlOf (f : Nat → RS) : RS := open Classical in if h : ∃ n, f n ≠ .bad then f h.choose else .bad
theorem wlOf_ok (f : Nat → RS) (h : wlOf f ≠ .bad) : ∃ n, f n = wlOf f := by
  classical
  unfold wlOf at h ⊢
  split
  · exact ⟨_, rfl⟩
  · rename_i q; rw [dif_neg q] at h; exact absurd rfl h
noncomputable def pgOf (L : List DI) (glob : Str → Option D) : Pg := ⟨fun f => (find L f).map (DI.fn (L.map (·.x))), glob, wlOf⟩
structure TxtOk (K : PySem.W.Frag) (mg : Str → Option Value) (G : Gb) (L : List DI) (glob : Str → Option D) : Prop where
  eqK : K = G.K
  bi : ∀ x ∈ biNames ++ (["range", "zip", "enumerate", "str"] : List Str), mg x = none
  gl : ∀ x d, glob x = some d → ∃ v u, (mg x = some u ∨ (mg x = none ∧ bootBuiltins x = some u ∧ x ≠ "__name__")) ∧ RelV v u ∧ ∀ A m H, RV G A m H v d
  defs : ∀ d ∈ L, ∃ fa fd, mg d.x = some (.ref fa) ∧ Fun K d.x d.x d.st fa fd ∧ Binds K fd d.ps [] ∧ FnScope d.N d.ps (defScope d.st)
section
variable {prog : Program} {w : World} {K : PySem.W.Frag} {mg : Str → Option Value} {base : Heap} {G : Gb} {L : List DI} {glob : Str → Option D}
theorem find_mem {f : Str} {d : DI} (h : find L f = some d) : d ∈ L ∧ d.x = f := ⟨List.mem_of_find?_eq_some h, by have := List.find?_some h; simpa using this⟩
theorem find_has {f : Str} (h : (L.map (·.x)).contains f = true) : ∃ d, find L f = some d := by
  cases q : find L f with
  | some d => exact ⟨d, rfl⟩
  | none =>
    have q := List.find?_eq_none.mp q
    have h : f ∈ L.map (·.x) := by simpa using h
    obtain ⟨d, hd, rfl⟩ := List.mem_map.mp h
    exact absurd (q d hd) (by simp)
theorem tb_glob (P : Pg) : ∀ n, (tb P n).glob = P.glob
  | 0 => rfl
  | _ + 1 => rfl
theorem tb_wh (P : Pg) : ∀ n, (tb P n).wh = P.wh
  | 0 => rfl
  | _ + 1 => rfl
theorem env_start {A : AP_} {m : List Addr} {H : Hp} {N : List Str} : ∀ {vs : List V} {ds : List D}, RVs G A m H vs ds → EnvR G A m H (start N vs) (ds.map some ++ List.replicate (N.length - vs.length) none) := fun {vs ds} t => by
  refine ⟨by simp [L2.start, t.length], fun i d h => ?_⟩
  by_cases hi : i < ds.length
  · rw [List.getElem?_append_left (by simpa using hi)] at h
    rw [List.getElem?_map] at h
    obtain ⟨y, hy, e⟩ := map_some (f := some) (o := ds[i]?) h
    cases e
    obtain ⟨v, h1, h2⟩ := t.get hy
    refine ⟨v, ?_, h2⟩
    show (vs.map some ++ List.replicate (N.length - vs.length) none)[i]? = _
    rw [List.getElem?_append_left (by rw [List.length_map, t.length]; exact hi), List.getElem?_map, h1]; rfl
  · rw [List.getElem?_append_right (by simpa using Nat.le_of_not_lt hi), List.getElem?_replicate] at h
    split at h <;> cases h
theorem fnOk (Tx : TxtOk K mg G L glob) : ∀ (n : Nat) (f : Str) (d : DI), find L f = some d →
    ∃ fa fd, mg f = some (.ref fa) ∧ PySem.W.keepIn K (.ref fa) = true ∧ Binds K fd d.ps [] ∧ FnOk prog w K mg base (L2.CX prog w) n fa fd d.ps (spF G d.ps.length ((tb (pgOf L glob) n).call f))
  | 0, f, d, h => by
    obtain ⟨hd, hx⟩ := find_mem h
    obtain ⟨fa, fd, h1, F, h2, _⟩ := Tx.defs d hd
    rw [hx] at h1
    exact ⟨fa, fd, h1, F.kp, h2, ⟨fun vs H Q E q => q.1, fun _ _ _ _ _ _ _ _ _ _ _ _ _ q => by
      obtain ⟨_, S, B, b, m, μ, ds, _, _, _, P⟩ := q
      exact False.elim P⟩⟩
  | n + 1, f, d, h => by
    obtain ⟨hd, hx⟩ := find_mem h
    obtain ⟨fa, fd, h1, F, h2, sc⟩ := Tx.defs d hd
    rw [hx] at h1
    refine ⟨fa, fd, h1, F.kp, h2, ?_⟩
    refine F.okX sc (fun vs H Q E q => q.1) fun cdv A outer s H vs Q E hr q => ?_
    obtain ⟨hl, S, B, b, m, μ, ds, hB, R, t, P⟩ := q
    have P : PostE G S B (WX0 E) m H [] Q (match (pgOf L glob).fns f with | some fn => runFn (tb (pgOf L glob) n) fn b ds μ | none => .bad) := P
    have hf : (pgOf L glob).fns f = some (DI.fn (L.map (·.x)) d) := by show (find L f).map _ = _; rw [h]; rfl
    rw [hf] at P
    have P : PostE G S B (WX0 E) m H [] Q (if ds.length = d.ps.length then exitF d.keep μ.length (runSs (tb (pgOf L glob) n) (if d.keep then b else μ.length) (trSs (d.tr (L.map (·.x))) (defScope d.st).names (defBody d.st)) (ds.map some ++ List.replicate (d.N.length - d.ps.length) none) μ) else .bad) := P
    obtain ⟨_, P⟩ := ifR P id
    have Gd : Good (cxOf (L2.CX prog w) prog w K mg base d.N d.x (defScope d.st) fa cdv A outer s H E) G (d.tr (L.map (·.x))) (tb (pgOf L glob) n) := by
      refine ⟨rfl, Tx.eqK, sc.nd, rfl, ?_, sc.kind, Tx.bi, fun z => Bool.noConfusion z, fun x y hy => Tx.gl x y ?_, fun g hg => ?_⟩
      · have := hr.un
        show (A.deeper _).units + 64 < cLine
        omega
      · rw [tb_glob] at hy; exact hy
      · obtain ⟨e, he⟩ := find_has hg
        obtain ⟨ga, gd, g1, g2, g3, g4⟩ := fnOk Tx n g e he
        refine ⟨ga, gd, e.ps, n, g1, g2, g4, hr, g3, fun b ds μ hne => ?_⟩
        have hge : (pgOf L glob).fns g = some (DI.fn (L.map (·.x)) e) := by show (find L g).map _ = _; rw [he]; rfl
        cases n with
        | zero => exact absurd rfl hne
        | succ n =>
          have hne : (match (pgOf L glob).fns g with | some fn => runFn (tb (pgOf L glob) n) fn b ds μ | none => .bad) ≠ VM.R.bad := hne
          rw [hge] at hne
          have hne : runFn (tb (pgOf L glob) n) (DI.fn (L.map (·.x)) e) b ds μ ≠ VM.R.bad := hne
          unfold runFn at hne
          by_cases hz : ds.length = (DI.fn (L.map (·.x)) e).ps
          · exact hz
          · rw [if_neg hz] at hne; exact absurd rfl hne
    have Gs : GoodS (cxOf (L2.CX prog w) prog w K mg base d.N d.x (defScope d.st) fa cdv A outer s H E) (tb (pgOf L glob) n) (WX0 E) :=
      ⟨fun _ => rfl, passes_of rfl, takes_of rfl rfl rfl rfl, fun g hg => by rw [tb_wh] at hg ⊢; exact wlOf_ok g hg⟩
    have body : ∀ b, PSs (cxOf (L2.CX prog w) prog w K mg base d.N d.x (defScope d.st) fa cdv A outer s H E) (defBody d.st) (tSs G (tb (pgOf L glob) n) b (WX0 E) (trSs (d.tr (L.map (·.x))) (defScope d.st).names (defBody d.st))) := by
      intro b
      unfold trSs
      induction defBody d.st with
      | nil => exact ss_nil
      | cons x l ihl => exact ss_cons (s_any Gd Gs 60 x) ihl
    have VV : EnvR G (av S m) m H (start d.N vs) (ds.map some ++ List.replicate (d.N.length - d.ps.length) none) := by
      have := env_start (N := d.N) t
      rw [hl] at this; exact this
    cases hk : d.keep with
    | true =>
      rw [hk] at P
      rw [if_pos rfl] at P
      exact ⟨_, body b, S, B, m, μ, _, hB, R, VV, post_keep P⟩
    | false =>
      rw [hk] at P
      rw [if_neg Bool.false_ne_true] at P
      have hx : ∀ x, B x → x ≤ μ.length := fun x hx => (R.lev x hx).1
      exact ⟨_, body μ.length, S, _, m, μ, _, fun x hx2 => hx2.elim (hx x) (fun e => Nat.le_of_eq e), R.enter, VV, post_cut R.len.symm hx P⟩
end
end VM

set_option Elab.async false
set_option maxRecDepth 100000
set_option autoImplicit false
set_option linter.unusedVariables false
/-! the law's run, from its run on the machine -/
namespace VM
open PySem PySem.Spec PyProof.Rows L2
def lawFn (defs : List Str) (d : DI) : Fn := ⟨1, d.N.length, false, trSs ⟨d.th, d.N, defs, true⟩ (defScope d.st).names (defBody d.st)⟩
section
variable {prog : Program} {w : World} {K : PySem.W.Frag} {mg mb : Str → Option Value} {base : Heap} {G : Gb} {L : List DI} {glob : Str → Option D}
/-- the body of the law, called by the caller of laws -/
theorem law_body (Tx : TxtOk K mg G L glob) {k : Nat} {d : DI} {x : Str} {fa a : Addr} {fd : FuncData} {s : Shared} {H : Hp} {ns : List Int} (hr : Room (k + 1) callerA) (F : Fun K d.x d.x d.st fa fd) (sc : FnScope d.N [x] (defScope d.st)) (hb : BindsTo s fd ⟨[.ref a], []⟩ [(x, .ref a)])
    (e0 : Env0 prog w K mg base callerA [] s H) (hS : SqL K H a (ns.map V.int)) {f : Nat} {μ : Sto} (run : runFn (tb (pgOf L glob) k) (lawFn (L.map (·.x)) d) 0 [.scr ns] [] = .ok (.bl true, f) μ) :
    codeAny (model prog w) callerA (.call (.ref fa) ⟨[.ref a], []⟩) (L2.CR (L2.CX prog w) [] prog w H s (fun v _ => v = .bl true) fun _ _ _ => False) s := by
  obtain ⟨oc, od, kV, doc, pm, an, cdv, ct, osl, rfl, lk, hcd⟩ := F.ex
  have KX : K.In s.heap := e0.mod.kin.keeps fun b o e => (e0.bs b o e).1
  have lim : s.heap.NoLimit := e0.mod.nolimit.keeps fun b o e => (e0.bs b o e).1
  have hkind : ∀ y ∈ [x].zip [Value.ref a], (defScope d.st).names.lookup y.1 = some .local ∨ ((defScope d.st).names.lookup y.1 = some .cell ∧ ((cellsFrom (s.heap.objs.size + 1) (defScope d.st).names []).lookup y.1).isSome = true) := fun ⟨n, v⟩ hy => by
    rcases sc.par n (List.of_mem_zip hy).1 with q | q
    · exact .inl q
    · exact .inr ⟨q, PySem.W.cellsFrom_some _ _ _ (.inl q)⟩
  refine codeAny_call_function hr.depth (KX _ _ lk) rfl sc.co sc.gen rfl (PySem.W.codeRec_of KX hcd) (hb _ _ _ _ ?_)
  refine wpAny_newFunctionEnv_cells sc.kind hkind fun env he s1 z => ?_
  subst he
  refine ⟨lim.keeps z.toInCall.keep, codeAny_func ?_⟩
  have I : Inv (cxOf (L2.CX prog w) prog w K mg base d.N d.x (defScope d.st) fa cdv callerA [] s H fun _ _ _ => False) [] (L2.start d.N [.ref a]) H s1 := inv_start (ps := [x]) (us := [.ref a]) sc hr.hd e0 rfl (.cons rfl .nil) z
  have hr2 := hr.deeper (envOfC d.x (defScope d.st) s.heap.objs.size fa cdv)
  have Gd : Good (cxOf (L2.CX prog w) prog w K mg base d.N d.x (defScope d.st) fa cdv callerA [] s H fun _ _ _ => False) G ⟨d.th, d.N, L.map (·.x), true⟩ (tb (pgOf L glob) k) := by
    refine ⟨rfl, Tx.eqK, sc.nd, rfl, ?_, sc.kind, Tx.bi, fun _ => rfl, fun y e hy => Tx.gl y e ?_, fun g hg => ?_⟩
    · have := hr2.un
      show (callerA.deeper _).units + 64 < cLine
      omega
    · rw [tb_glob] at hy; exact hy
    · obtain ⟨e, he⟩ := find_has hg
      obtain ⟨ga, gd, g1, g2, g3, g4⟩ := fnOk (prog := prog) (w := w) (base := base) Tx k g e he
      refine ⟨ga, gd, e.ps, k, g1, g2, g4, hr2, g3, fun b ds μ hne => ?_⟩
      have hge : (pgOf L glob).fns g = some (DI.fn (L.map (·.x)) e) := by show (find L g).map _ = _; rw [he]; rfl
      cases k with
      | zero => exact absurd rfl hne
      | succ n =>
        have hne : (match (pgOf L glob).fns g with | some fn => runFn (tb (pgOf L glob) n) fn b ds μ | none => .bad) ≠ VM.R.bad := hne
        rw [hge] at hne
        have hne : runFn (tb (pgOf L glob) n) (DI.fn (L.map (·.x)) e) b ds μ ≠ VM.R.bad := hne
        unfold runFn at hne
        by_cases hz : ds.length = (DI.fn (L.map (·.x)) e).ps
        · exact hz
        · rw [if_neg hz] at hne; exact absurd rfl hne
  have Gs : GoodS (cxOf (L2.CX prog w) prog w K mg base d.N d.x (defScope d.st) fa cdv callerA [] s H fun _ _ _ => False) (tb (pgOf L glob) k) (WX0 fun _ _ _ => False) :=
    ⟨fun _ => rfl, passes_of rfl, takes_of rfl rfl rfl rfl, fun g hg => by rw [tb_wh] at hg ⊢; exact wlOf_ok g hg⟩
  have body : PSs (cxOf (L2.CX prog w) prog w K mg base d.N d.x (defScope d.st) fa cdv callerA [] s H fun _ _ _ => False) (defBody d.st) (tSs G (tb (pgOf L glob) k) 0 (WX0 fun _ _ _ => False) (trSs ⟨d.th, d.N, L.map (·.x), true⟩ (defScope d.st).names (defBody d.st))) := by
    unfold trSs
    induction defBody d.st with
    | nil => exact ss_nil
    | cons x l ihl => exact ss_cons (s_any Gd Gs 60 x) ihl
  have R0 : Rep G (fun _ => False) (fun _ => False) [] [] H := ⟨rfl, List.nodup_nil, fun l a c h => by simp at h, fun x z => z.elim, fun a z => z.elim⟩
  have t0 : RVs G (av (fun _ => False) []) [] H [.ref a] [.scr ns] := .cons (.scr (by
    rw [← Tx.eqK]
    rcases hS with h | h
    · exact .inl ⟨h, fun z => z.elim (fun z => z) (fun z => by cases z)⟩
    · exact .inr h)) .nil
  have VV := env_start (N := d.N) t0
  have P : PostE G (fun _ => False) (fun _ => False) (WX0 fun _ _ _ => False) [] H [] (fun v _ => v = .bl true) (.ok (.bl true, f) μ) := fun v H' m' _ _ r _ => by cases r; rfl
  rw [← run] at P
  have P : PostE G (fun _ => False) (fun _ => False) (WX0 fun _ _ _ => False) [] H [] (fun v _ => v = .bl true) (exitF false 0 (runSs (tb (pgOf L glob) k) 0 (trSs ⟨d.th, d.N, L.map (·.x), true⟩ (defScope d.st).names (defBody d.st)) ([D.scr ns].map some ++ List.replicate (d.N.length - 1) none) [])) := P
  have P2 := post_cut (n := 0) rfl (fun x z => z.elim) P
  have hq : tSs G (tb (pgOf L glob) k) 0 (WX0 fun _ _ _ => False) (trSs ⟨d.th, d.N, L.map (·.x), true⟩ (defScope d.st).names (defBody d.st)) { nx := fun _ H' => V.non = .bl true, rt := fun v _ => v = .bl true } (L2.start d.N [.ref a]) H :=
    ⟨_, _, [], [], _, fun x hx => hx.elim (fun z => z.elim) Nat.le_of_eq, R0.enter, VV, P2⟩
  refine wpAny_mono (body.run [] s1 _ H _ I hq) (fun fl s' hs => ?_) fun e s' hs => hs
  have fin : ∀ {σ' : L2.St} {H' : Hp} {v : V} {u : Value}, Inv (cxOf (L2.CX prog w) prog w K mg base d.N d.x (defScope d.st) fa cdv callerA [] s H fun _ _ _ => False) [] σ' H' s' → RelV v u → v = .bl true → CE [] prog w H s (fun v _ => v = .bl true) u s' :=
    fun {σ' H' v u} J rv q => ⟨v, H', J.os, J.bare, J.base, J.hok, rv, q⟩
  cases fl with
  | ret u =>
    obtain ⟨v, σ', H', J, rv, q⟩ := hs
    exact fin J rv q
  | next =>
    obtain ⟨σ', H', J, q⟩ := hs
    cases q
  | brk =>
    obtain ⟨_, _, _, q⟩ := hs
    exact False.elim q
  | cont =>
    obtain ⟨_, _, _, q⟩ := hs
    exact False.elim q
theorem law_at (Tx : TxtOk K mg G L glob) {k : Nat} {d : DI} {x : Str} {fa a : Addr} {fd : FuncData} {s₁ : Shared} {vs : List Value} {ns : List Int} (KX : K.In s₁.heap) (hns : s₁.heap.Ns mainGlobals mg) (hb : s₁.heap.Ns builtinsNs mb) (hbb : ∀ x : Str, x ≠ "__name__" → mb x = bootBuiltins x)
    (hlim : s₁.heap.NoLimit) (hg : s₁.gens = #[]) (ha : s₁.heap.get? a = some { cls := .type "list", data := .seq vs.toArray }) (hi : IntsAre vs ns) (hl : ns.length ≤ sizeLine) (hr : Room (k + 1) callerA)
    (F : Fun K d.x d.x d.st fa fd) (sc : FnScope d.N [x] (defScope d.st)) (hbind : ∀ (s : Shared) (u : Value), BindsTo s fd ⟨[u], []⟩ [(x, u)]) {f : Nat} {μ : Sto} (run : runFn (tb (pgOf L glob) k) (lawFn (L.map (·.x)) d) 0 [.scr ns] [] = .ok (.bl true, f) μ) :
    codeAny (model prog w) callerA (.call (.ref fa) ⟨[.ref a], []⟩) (fun r s' => r = .ok (.ret (.bool true)) ∧ OldK s₁.heap s'.heap ∧ s'.os = s₁.os ∧ AllBare s'.gens) s₁ := by
  have rv := vals_ints hi
  have core : ∀ H : Hp, (∀ b, H b = none ∨ b = a ∧ H b = some (.frz { cls := .type "list", data := .seq vs.toArray } (.lst (ns.map V.int)))) → SqL K H a (ns.map V.int) → HOk prog w H s₁.heap → (H a ≠ none → K.lookup a = none) →
      codeAny (model prog w) callerA (.call (.ref fa) ⟨[.ref a], []⟩) (fun r s' => r = .ok (.ret (.bool true)) ∧ OldK s₁.heap s'.heap ∧ s'.os = s₁.os ∧ AllBare s'.gens) s₁ := by
    intro H hO hS hok hK
    have base_of : ∀ {b : Addr} {o : Obj}, s₁.heap.get? b = some o → H b = none → (hidT s₁.heap H).get? b = some o := fun e n => hidT_get e n
    have isDict : ∀ {b : Addr} {m : Str → Option Value}, s₁.heap.Ns b m → (hidT s₁.heap H).Ns b m := fun {b m} ⟨o, es, ep, e, dd, r⟩ => ⟨o, es, ep, base_of e (by
      rcases hO b with z | ⟨z, _⟩
      · exact z
      · rw [z, ha] at e
        cases e
        have dd : Data.seq vs.toArray _ = Data.dict es ep := dd
        cases dd), dd, r⟩
    have hKb : K.In (hidT s₁.heap H) := fun b o e => base_of (KX b o e) (by
      rcases hO b with z | ⟨z, y⟩
      · exact z
      · rw [z] at y e
        rw [hK (by rw [y]; simp)] at e; cases e)
    have hM : Mod K mg (hidT s₁.heap H) := ⟨hKb, isDict hns, ⟨mb, isDict hb, hbb⟩, let ⟨mc, h1, h2⟩ := hlim; ⟨mc, isDict h1, h2⟩⟩
    have e0 : Env0 prog w K mg (hidT s₁.heap H) callerA [] s₁ H := ⟨rfl, hM, fun b o e => of_hidT e, Nat.le_of_eq (hidT_size _ _), trivial, fun b hb => (by cases hb), hok, .of_eq hg⟩
    refine codeAny_mono (law_body Tx hr F sc (hbind s₁ (.ref a)) e0 hS run) fun r s' h => ?_
    cases r with
    | error e =>
      have h : L2.CX prog w [] H s₁ (fun _ _ _ => False) e s' := h
      obtain ⟨_, _, _, _, _, _, _, _, _, _, _, _, z⟩ := h
      exact z.elim
    | ok fl =>
      cases fl with
      | ret u =>
        obtain ⟨v, H', os, bare, un, hok', r', q⟩ := h
        have q : v = .bl true := q
        subst q
        obtain rfl : u = Value.bool true := r'
        refine ⟨rfl, OldK.of_keep fun b o e => ?_, os, bare⟩
        rcases hO b with z | ⟨_, z⟩
        · exact un.keep b o e z (by intro y; cases y) (by simp)
        · obtain ⟨e1, _⟩ := hok b _ z
          obtain ⟨e2, _⟩ := hok' b _ (un.frzs b _ _ z)
          rw [e] at e1; cases e1
          exact e2
      | _ => exact False.elim h
  cases hk : K.lookup a with
  | some o =>
    have e := KX a o hk
    rw [ha] at e
    cases e
    exact core (fun _ => none) (fun _ => .inl rfl) (.inr ⟨_, vs.toArray, _, hk, rfl, rfl, rfl, by rw [List.size_toArray, hi.length]; exact hl, by simpa using rv⟩) (fun b u z => by cases z) fun z => absurd rfl z
  | none =>
    refine core (fun b => if b = a then some (.frz { cls := .type "list", data := .seq vs.toArray } (.lst (ns.map V.int))) else none) (fun b => ?_) (.inl (.inr ⟨_, if_pos rfl⟩)) (fun b u z => ?_) fun _ => hk
    · by_cases h : b = a
      · exact .inr ⟨h, if_pos h⟩
      · exact .inl (if_neg h)
    · by_cases h : b = a
      · have z' := (if_pos h).symm.trans z
        cases z'
        subst h
        exact ⟨ha, by rw [List.length_map]; exact hl, vs, _, rv, ha⟩
      · have z' := (if_neg h).symm.trans z
        cases z'
end
/-- the goal that k_head leaves -/
theorem walk_vm {l : PySem.W.OpenLaw} {n k : Nat} {q : Program} {loose : List Str} {XP : (Str → Option Value) → Heap → Prop} {YP : World → Heap → Prop} {d : DefRec} {K : Params → PySem.W.Frag} {x : Str}
    (hn : l.most = some n) (hn2 : n ≤ sizeLine) (hdf : d.params.defaults = []) (hr : Room (k + 1) callerA)
    (hY : ∀ (w : World) (h : Heap), YP w h → (K w.params).In h)
    (F : ∀ (w : World) (mg : Str → Option Value) (fa : Addr) (h : Heap), (K w.params).In h → h.Ns mainGlobals mg → mg d.name = some (.ref fa) →
      ∃ (G : Gb) (L : List DI) (glob : Str → Option D) (i : DI) (fd : FuncData), TxtOk (K w.params) mg G L glob ∧ Fun (K w.params) i.x i.x i.st fa fd ∧ FnScope i.N [x] (defScope i.st) ∧ (∀ (s : Shared) (u : Value), BindsTo s fd ⟨[u], []⟩ [(x, u)]) ∧
        ∀ ns : List Int, ns.length ≤ n → (∀ z ∈ ns, Builtin.Int.intBits z ≤ 1048576) → ∃ f μ, runFn (tb (pgOf L glob) k) (lawFn (L.map (·.x)) i) 0 [.scr ns] [] = .ok (.bl true, f) μ) :
    PySem.W.WalkO q loose XP YP l.row.toRowW d [] (fun f vs => PySem.call f vs) := by
  refine Att.attach_callB hn hdf fun w s₀ s₁ mg mb fa o pm cd doc a vs ns G Y ho hd hcd hmg hobj hints hlen hbits hg => ?_
  have KX := hY w _ Y
  obtain ⟨Gb, L, glob, i, fd, Tx, F1, sc, hb, run⟩ := F w mg fa _ KX G.T.g hmg
  obtain ⟨f, μ, run⟩ := run ns hlen hbits
  exact law_at Tx KX G.T.g G.T.b G.T.builtins G.T.nolimit hg hobj hints (Nat.le_trans hlen hn2) hr F1 sc hb run
end VM

set_option Elab.async false
set_option maxRecDepth 10000
set_option autoImplicit false
set_option linter.unusedVariables false
/-! reckoning on the machine, unsealed -/
namespace VM
open PySem L2
abbrev NoX : Exc → Sto → Prop := fun _ _ => False
def srcIt (μ : Sto) (d : D) : Option Src := match d with | .tup xs => some (.data xs) | d => srcL μ d
end VM
namespace VM.U
open PySem VM L2

def Wp {α : Type} (r : R α) (Q : α → Sto → Prop) (E : Exc → Sto → Prop) : Prop := match r with
  | .ok a μ => Q a μ
  | .err x μ => E x μ
  | .bad => False
def Ws (r : RS) (N : Ev → Sto → Prop) (Rt : D → Nat → Sto → Prop) (Bk Ct : Ev → Sto → Prop) (E : Exc → Ev → Sto → Prop) : Prop := match r with
  | .nx ρ μ => N ρ μ
  | .ret d f μ => Rt d f μ
  | .brk ρ μ => Bk ρ μ
  | .ct ρ μ => Ct ρ μ
  | .err x ρ μ => E x ρ μ
  | .bad => False
section
variable {α β : Type} {Q : α → Sto → Prop} {Q2 : β → Sto → Prop} {E : Exc → Sto → Prop} {μ : Sto} {T : Tb} {b : Nat} {ρ : Ev}
variable {N Bk Ct : Ev → Sto → Prop} {Rt : D → Nat → Sto → Prop} {X : Exc → Ev → Sto → Prop}
theorem wp_ok {a : α} : Wp (.ok a μ) Q E ↔ Q a μ := Iff.rfl
theorem wp_bad : Wp (.bad : R α) Q E ↔ False := Iff.rfl
theorem wp_err {x : Exc} : Wp (.err x μ : R α) Q E ↔ E x μ := Iff.rfl
theorem wp_bind {r : R α} {f : α → Sto → R β} : Wp (r.bind f) Q2 E ↔ Wp r (fun a μ => Wp (f a μ) Q2 E) E := by
  cases r <;> exact Iff.rfl
theorem wp_mono {r : R α} {Q' : α → Sto → Prop} {E' : Exc → Sto → Prop} (h : Wp r Q E) (k : ∀ a μ, Q a μ → Q' a μ) (j : ∀ x μ, E x μ → E' x μ) : Wp r Q' E' := by
  cases r with
  | ok a μ => exact k _ _ h
  | err x μ => exact j _ _ h
  | bad => exact h
theorem wp_okR {o : Option α} : Wp (okR o μ) Q E ↔ ∃ a, o = some a ∧ Q a μ := by
  cases o with
  | none => exact ⟨fun h => h.elim, fun ⟨_, h, _⟩ => by cases h⟩
  | some a => exact ⟨fun h => ⟨a, rfl, h⟩, fun ⟨_, h, q⟩ => by cases h; exact q⟩
theorem wp_if {c : Prop} [Decidable c] {r s : R α} : Wp (if c then r else s) Q E ↔ (c → Wp r Q E) ∧ (¬ c → Wp s Q E) := by
  by_cases h : c
  · rw [if_pos h]; exact ⟨fun q => ⟨fun _ => q, fun n => absurd h n⟩, fun q => q.1 h⟩
  · rw [if_neg h]; exact ⟨fun q => ⟨fun n => absurd n h, fun _ => q⟩, fun q => q.2 h⟩
theorem ws_st {r : R α} {f : α → Sto → RS} : Ws (r.st ρ f) N Rt Bk Ct X ↔ Wp r (fun a μ => Ws (f a μ) N Rt Bk Ct X) (fun x μ => X x ρ μ) := by
  cases r <;> exact Iff.rfl
theorem ws_nx : Ws (.nx ρ μ) N Rt Bk Ct X ↔ N ρ μ := Iff.rfl
theorem ws_ret {d : D} {f : Nat} : Ws (.ret d f μ) N Rt Bk Ct X ↔ Rt d f μ := Iff.rfl
theorem ws_cons {s : VM.S} {ss : Ss} : Ws (runSs T b (.cons s ss) ρ μ) N Rt Bk Ct X ↔ Ws (runS T b s ρ μ) (fun ρ1 μ1 => Ws (runSs T b ss ρ1 μ1) N Rt Bk Ct X) Rt Bk Ct X := by
  show Ws (match runS T b s ρ μ with | .nx ρ1 μ1 => runSs T b ss ρ1 μ1 | r => r) N Rt Bk Ct X ↔ _
  cases runS T b s ρ μ <;> exact Iff.rfl
theorem ws_seq {s : VM.S} {ss : Ss} (M : Ev → Sto → Prop) (h1 : Ws (runS T b s ρ μ) M Rt Bk Ct X) (h2 : ∀ ρ1 μ1, M ρ1 μ1 → Ws (runSs T b ss ρ1 μ1) N Rt Bk Ct X) : Ws (runSs T b (.cons s ss) ρ μ) N Rt Bk Ct X := by
  have e : runSs T b (.cons s ss) ρ μ = match runS T b s ρ μ with | .nx ρ1 μ1 => runSs T b ss ρ1 μ1 | r => r := rfl
  rw [e]
  cases q : runS T b s ρ μ with
  | nx ρ1 μ1 => rw [q] at h1; exact h2 _ _ h1
  | ret d f μ1 => rw [q] at h1; exact h1
  | brk ρ1 μ1 => rw [q] at h1; exact h1
  | ct ρ1 μ1 => rw [q] at h1; exact h1
  | err x ρ1 μ1 => rw [q] at h1; exact h1
  | bad => rw [q] at h1; exact h1
theorem ws_nil : Ws (runSs T b .nil ρ μ) N Rt Bk Ct X ↔ N ρ μ := Iff.rfl
theorem ws_ife {t : VM.E} {x y : Ss} : Ws (runS T b (.ife t x y) ρ μ) N Rt Bk Ct X ↔ Wp (evE T b t ρ μ) (fun d μ1 => ∃ k, truD μ1 d.1 = some k ∧ (k = true → Ws (runSs T b x ρ μ1) N Rt Bk Ct X) ∧ (k = false → Ws (runSs T b y ρ μ1) N Rt Bk Ct X)) (fun x μ => X x ρ μ) := by
  show Ws ((tst (evE T b t ρ μ)).st ρ fun k μ1 => match k with | true => runSs T b x ρ μ1 | false => runSs T b y ρ μ1) N Rt Bk Ct X ↔ _
  rw [ws_st]
  unfold tst
  rw [wp_bind]
  have : ∀ (d : D × Nat) (μ1 : Sto), Wp (okR (truD μ1 d.1) μ1) (fun k μ1 => Ws (match k with | true => runSs T b x ρ μ1 | false => runSs T b y ρ μ1) N Rt Bk Ct X) (fun x μ => X x ρ μ) ↔ ∃ k, truD μ1 d.1 = some k ∧ (k = true → Ws (runSs T b x ρ μ1) N Rt Bk Ct X) ∧ (k = false → Ws (runSs T b y ρ μ1) N Rt Bk Ct X) := by
    intro d μ1
    rw [wp_okR]
    refine exists_congr fun k => and_congr_right fun _ => ?_
    cases k <;> simp
  simp only [this]
theorem ws_mono {r : RS} {N' Bk' Ct' : Ev → Sto → Prop} {Rt' : D → Nat → Sto → Prop} {X' : Exc → Ev → Sto → Prop} (h : Ws r N Rt Bk Ct X) (h1 : ∀ ρ μ, N ρ μ → N' ρ μ) (h2 : ∀ d f μ, Rt d f μ → Rt' d f μ) (h3 : ∀ ρ μ, Bk ρ μ → Bk' ρ μ) (h4 : ∀ ρ μ, Ct ρ μ → Ct' ρ μ) (h5 : ∀ x ρ μ, X x ρ μ → X' x ρ μ) : Ws r N' Rt' Bk' Ct' X' := by
  cases r with
  | nx ρ μ => exact h1 _ _ h
  | ret d f μ => exact h2 _ _ _ h
  | brk ρ μ => exact h3 _ _ h
  | ct ρ μ => exact h4 _ _ h
  | err x ρ μ => exact h5 _ _ _ h
  | bad => exact h
/-! statements -/
theorem ws_set {i : Nat} {e : VM.E} : Ws (runS T b (.set (.name i) e) ρ μ) N Rt Bk Ct X ↔ Wp (evE T b e ρ μ) (fun d μ1 => N (ρ.set i (some d.1)) μ1) (fun x μ => X x ρ μ) := by
  show Ws ((evE T b e ρ μ).st ρ fun d μ1 => onlyNx (asg T b (.name i) d.1 ρ μ1)) N Rt Bk Ct X ↔ _
  rw [ws_st]; exact Iff.rfl
theorem ws_ret_ {e : VM.E} : Ws (runS T b (.ret e) ρ μ) N Rt Bk Ct X ↔ Wp (evE T b e ρ μ) (fun d μ1 => Rt d.1 d.2 μ1) (fun x μ => X x ρ μ) := by
  show Ws ((evE T b e ρ μ).st ρ fun d μ1 => .ret d.1 d.2 μ1) N Rt Bk Ct X ↔ _
  rw [ws_st]; exact Iff.rfl
theorem ws_expr {e : VM.E} : Ws (runS T b (.expr e) ρ μ) N Rt Bk Ct X ↔ Wp (evE T b e ρ μ) (fun d μ1 => N ρ μ1) (fun x μ => X x ρ μ) := by
  show Ws ((evE T b e ρ μ).st ρ fun _ μ1 => .nx ρ μ1) N Rt Bk Ct X ↔ _
  rw [ws_st]; exact Iff.rfl
theorem ws_retn : Ws (runS T b .retn ρ μ) N Rt Bk Ct X ↔ Rt .non 0 μ := Iff.rfl
theorem ws_pass : Ws (runS T b .pass ρ μ) N Rt Bk Ct X ↔ N ρ μ := Iff.rfl
theorem ws_brk : Ws (runS T b .brk ρ μ) N Rt Bk Ct X ↔ Bk ρ μ := Iff.rfl
theorem ws_cnt : Ws (runS T b .cnt ρ μ) N Rt Bk Ct X ↔ Ct ρ μ := Iff.rfl
theorem ws_sub {o i e : VM.E} : Ws (runS T b (.set (.sub o i) e) ρ μ) N Rt Bk Ct X ↔ Wp (evE T b e ρ μ) (fun d μ1 => Wp (evE T b o ρ μ1) (fun od μ2 => Wp (evE T b i ρ μ2) (fun id μ3 => ∃ μ4, setD b od.1 id.1 d.1 μ3 = some μ4 ∧ N ρ μ4) (fun x μ => X x ρ μ)) (fun x μ => X x ρ μ)) (fun x μ => X x ρ μ) := by
  show Ws ((evE T b e ρ μ).st ρ fun d μ1 => onlyNx (asg T b (.sub o i) d.1 ρ μ1)) N Rt Bk Ct X ↔ _
  rw [ws_st]
  have : ∀ (d : D × Nat) (μ1 : Sto), Ws (onlyNx (asg T b (.sub o i) d.1 ρ μ1)) N Rt Bk Ct X ↔ Wp (evE T b o ρ μ1) (fun od μ2 => Wp (evE T b i ρ μ2) (fun id μ3 => ∃ μ4, setD b od.1 id.1 d.1 μ3 = some μ4 ∧ N ρ μ4) (fun x μ => X x ρ μ)) (fun x μ => X x ρ μ) := by
    intro d μ1
    rw [asg_sub]
    cases evE T b o ρ μ1 with
    | bad => exact Iff.rfl
    | err x μ2 => exact Iff.rfl
    | ok od μ2 =>
      show Ws (onlyNx (match evE T b i ρ μ2 with
        | .ok id μ2 => match setD b od.1 id.1 d.1 μ2 with | some μ3 => .nx ρ μ3 | none => .bad
        | .err x μ2 => .err x ρ μ2
        | .bad => .bad)) N Rt Bk Ct X ↔ Wp (evE T b i ρ μ2) (fun id μ3 => ∃ μ4, setD b od.1 id.1 d.1 μ3 = some μ4 ∧ N ρ μ4) (fun x μ => X x ρ μ)
      cases evE T b i ρ μ2 with
      | bad => exact Iff.rfl
      | err x μ2 => exact Iff.rfl
      | ok id μ3 =>
        show Ws (onlyNx (match setD b od.1 id.1 d.1 μ3 with | some μ3 => .nx ρ μ3 | none => .bad)) N Rt Bk Ct X ↔ ∃ μ4, setD b od.1 id.1 d.1 μ3 = some μ4 ∧ N ρ μ4
        cases setD b od.1 id.1 d.1 μ3 with
        | none => exact ⟨fun h => h.elim, fun ⟨_, h, _⟩ => by cases h⟩
        | some μ4 => exact ⟨fun h => ⟨μ4, rfl, h⟩, fun ⟨_, h, q⟩ => by cases h; exact q⟩
  simp only [this]
/-! expressions -/
theorem x_var {i : Nat} {d : D} {Q : D × Nat → Sto → Prop} (h : ρ[i]? = some (some d)) : Wp (evE T b (.var i) ρ μ) Q E ↔ Q (d, 0) μ := by
  show Wp (match ρ[i]? with | some (some d) => .ok (d, 0) μ | _ => .bad) Q E ↔ _
  rw [h]; exact Iff.rfl
section
variable {Q : D × Nat → Sto → Prop} {x y z : VM.E} {es : VM.Es}
theorem x_non : Wp (evE T b .non ρ μ) Q E ↔ Q (.non, 0) μ := Iff.rfl
theorem x_npart : Wp (evE T b .npart ρ μ) Q E ↔ Q (.non, 0) μ := Iff.rfl
theorem x_bl {k : Bool} : Wp (evE T b (.bl k) ρ μ) Q E ↔ Q (.bl k, 0) μ := Iff.rfl
theorem x_int {i : Int} : Wp (evE T b (.int i) ρ μ) Q E ↔ Q (.int i, 0) μ := Iff.rfl
theorem x_str {s : Str} : Wp (evE T b (.str s) ρ μ) Q E ↔ Q (.str s, 0) μ := Iff.rfl
theorem x_glob {g : Str} : Wp (evE T b (.glob g) ρ μ) Q E ↔ ∃ d, T.glob g = some d ∧ Q (d, 0) μ := by
  show Wp (sh (T.glob g) μ) Q E ↔ _
  cases T.glob g with
  | none => exact ⟨fun h => h.elim, fun ⟨_, h, _⟩ => by cases h⟩
  | some d => exact ⟨fun h => ⟨d, rfl, h⟩, fun ⟨_, h, q⟩ => by cases h; exact q⟩
theorem x_bin {op : Operator} : Wp (evE T b (.bin op x y) ρ μ) Q E ↔ Wp (evE T b x ρ μ) (fun d μ1 => Wp (evE T b y ρ μ1) (fun e μ2 => Wp (binD op d.1 e.1 μ2) Q E) E) E := by
  show Wp ((evE T b x ρ μ).bind fun d μ1 => (evE T b y ρ μ1).bind fun e μ2 => binD op d.1 e.1 μ2) Q E ↔ _
  simp only [wp_bind]
theorem x_neg : Wp (evE T b (.neg x) ρ μ) Q E ↔ Wp (evE T b x ρ μ) (fun d μ1 => Wp (negD d.1 μ1) Q E) E := by
  show Wp ((evE T b x ρ μ).bind fun d μ1 => negD d.1 μ1) Q E ↔ _
  simp only [wp_bind]
theorem wp_sh {o : Option D} : Wp (sh o μ) Q E ↔ ∃ d, o = some d ∧ Q (d, 0) μ := by
  cases o with
  | none => exact ⟨fun h => h.elim, fun ⟨_, h, _⟩ => by cases h⟩
  | some d => exact ⟨fun h => ⟨d, rfl, h⟩, fun ⟨_, h, q⟩ => by cases h; exact q⟩
theorem wp_shb {o : Option Bool} {f : Bool → Bool} : Wp (sh (o.map fun k => D.bl (f k)) μ) Q E ↔ ∃ k, o = some k ∧ Q (.bl (f k), 0) μ := by
  cases o with
  | none => exact ⟨fun h => h.elim, fun ⟨_, h, _⟩ => by cases h⟩
  | some d => exact ⟨fun h => ⟨d, rfl, h⟩, fun ⟨_, h, q⟩ => by cases h; exact q⟩
theorem wp_sh0 {o : Option Bool} : Wp (sh (o.map D.bl) μ) Q E ↔ ∃ k, o = some k ∧ Q (.bl k, 0) μ := by
  cases o with
  | none => exact ⟨fun h => h.elim, fun ⟨_, h, _⟩ => by cases h⟩
  | some d => exact ⟨fun h => ⟨d, rfl, h⟩, fun ⟨_, h, q⟩ => by cases h; exact q⟩
theorem x_not : Wp (evE T b (.not x) ρ μ) Q E ↔ Wp (evE T b x ρ μ) (fun d μ1 => ∃ k, truD μ1 d.1 = some k ∧ Q (.bl !k, 0) μ1) E := by
  show Wp ((evE T b x ρ μ).bind fun d μ1 => sh ((truD μ1 d.1).map fun k => .bl !k) μ1) Q E ↔ _
  simp only [wp_bind, wp_shb]
theorem x_and : Wp (evE T b (.and x y) ρ μ) Q E ↔ Wp (evE T b x ρ μ) (fun d μ1 => ∃ k, truD μ1 d.1 = some k ∧ (k = true → Wp (evE T b y ρ μ1) Q E) ∧ (k = false → Q (d.1, 0) μ1)) E := by
  show Wp ((evE T b x ρ μ).bind fun d μ1 => match truD μ1 d.1 with | some true => evE T b y ρ μ1 | some false => .ok (d.1, 0) μ1 | none => .bad) Q E ↔ _
  have : ∀ (d : D × Nat) (μ1 : Sto), Wp (match truD μ1 d.1 with | some true => evE T b y ρ μ1 | some false => .ok (d.1, 0) μ1 | none => .bad) Q E ↔ ∃ k, truD μ1 d.1 = some k ∧ (k = true → Wp (evE T b y ρ μ1) Q E) ∧ (k = false → Q (d.1, 0) μ1) := by
    intro d μ1
    cases truD μ1 d.1 with
    | none => exact ⟨fun h => h.elim, fun ⟨_, h, _⟩ => by cases h⟩
    | some k => cases k <;> simp [Wp]
  simp only [wp_bind, this]
theorem x_or : Wp (evE T b (.or x y) ρ μ) Q E ↔ Wp (evE T b x ρ μ) (fun d μ1 => ∃ k, truD μ1 d.1 = some k ∧ (k = false → Wp (evE T b y ρ μ1) Q E) ∧ (k = true → Q (d.1, 0) μ1)) E := by
  show Wp ((evE T b x ρ μ).bind fun d μ1 => match truD μ1 d.1 with | some false => evE T b y ρ μ1 | some true => .ok (d.1, 0) μ1 | none => .bad) Q E ↔ _
  have : ∀ (d : D × Nat) (μ1 : Sto), Wp (match truD μ1 d.1 with | some false => evE T b y ρ μ1 | some true => .ok (d.1, 0) μ1 | none => .bad) Q E ↔ ∃ k, truD μ1 d.1 = some k ∧ (k = false → Wp (evE T b y ρ μ1) Q E) ∧ (k = true → Q (d.1, 0) μ1) := by
    intro d μ1
    cases truD μ1 d.1 with
    | none => exact ⟨fun h => h.elim, fun ⟨_, h, _⟩ => by cases h⟩
    | some k => cases k <;> simp [Wp]
  simp only [wp_bind, this]
theorem x_cmp {op : CmpOp} : Wp (evE T b (.cmp op x y) ρ μ) Q E ↔ Wp (evE T b x ρ μ) (fun d μ1 => Wp (evE T b y ρ μ1) (fun e μ2 => ∃ k, cmpD op d.1 e.1 μ2 = some k ∧ Q (.bl k, 0) μ2) E) E := by
  show Wp ((evE T b x ρ μ).bind fun d μ1 => (evE T b y ρ μ1).bind fun e μ2 => sh ((cmpD op d.1 e.1 μ2).map .bl) μ2) Q E ↔ _
  simp only [wp_bind, wp_sh0]
theorem x_cmp2 {op op2 : CmpOp} : Wp (evE T b (.cmp2 op op2 x y z) ρ μ) Q E ↔ Wp (evE T b x ρ μ) (fun d μ1 => Wp (evE T b y ρ μ1) (fun e μ2 => ∃ k, cmpD op d.1 e.1 μ2 = some k ∧ (k = true → Wp (evE T b z ρ μ2) (fun g μ3 => ∃ k, cmpD op2 e.1 g.1 μ3 = some k ∧ Q (.bl k, 0) μ3) E) ∧ (k = false → Q (.bl false, 0) μ2)) E) E := by
  show Wp ((evE T b x ρ μ).bind fun d μ1 => (evE T b y ρ μ1).bind fun e μ2 => match cmpD op d.1 e.1 μ2 with
    | some true => (evE T b z ρ μ2).bind fun g μ3 => sh ((cmpD op2 e.1 g.1 μ3).map .bl) μ3
    | some false => .ok (.bl false, 0) μ2
    | none => .bad) Q E ↔ _
  have : ∀ (d e : D × Nat) (μ2 : Sto), Wp (match cmpD op d.1 e.1 μ2 with
    | some true => (evE T b z ρ μ2).bind fun g μ3 => sh ((cmpD op2 e.1 g.1 μ3).map .bl) μ3
    | some false => .ok (.bl false, 0) μ2
    | none => .bad) Q E ↔ ∃ k, cmpD op d.1 e.1 μ2 = some k ∧ (k = true → Wp (evE T b z ρ μ2) (fun g μ3 => ∃ k, cmpD op2 e.1 g.1 μ3 = some k ∧ Q (.bl k, 0) μ3) E) ∧ (k = false → Q (.bl false, 0) μ2) := by
    intro d e μ2
    cases cmpD op d.1 e.1 μ2 with
    | none => exact ⟨fun h => h.elim, fun ⟨_, h, _⟩ => by cases h⟩
    | some k =>
      cases k with
      | true =>
        simp only [wp_bind, wp_sh0]
        exact ⟨fun h => ⟨true, rfl, fun _ => h, fun z => by cases z⟩, fun ⟨k, h, h1, _⟩ => by cases h; exact h1 rfl⟩
      | false => exact ⟨fun h => ⟨false, rfl, fun z => (by cases z), fun _ => h⟩, fun ⟨k, h, _, h1⟩ => by cases h; exact h1 rfl⟩
  simp only [wp_bind, this]
theorem x_ife {t : VM.E} : Wp (evE T b (.ife t x y) ρ μ) Q E ↔ Wp (evE T b t ρ μ) (fun d μ1 => ∃ k, truD μ1 d.1 = some k ∧ (k = true → Wp (evE T b x ρ μ1) Q E) ∧ (k = false → Wp (evE T b y ρ μ1) Q E)) E := by
  show Wp ((evE T b t ρ μ).bind fun d μ1 => match truD μ1 d.1 with | some true => evE T b x ρ μ1 | some false => evE T b y ρ μ1 | none => .bad) Q E ↔ _
  have : ∀ (d : D × Nat) (μ1 : Sto), Wp (match truD μ1 d.1 with | some true => evE T b x ρ μ1 | some false => evE T b y ρ μ1 | none => .bad) Q E ↔ ∃ k, truD μ1 d.1 = some k ∧ (k = true → Wp (evE T b x ρ μ1) Q E) ∧ (k = false → Wp (evE T b y ρ μ1) Q E) := by
    intro d μ1
    cases truD μ1 d.1 with
    | none => exact ⟨fun h => h.elim, fun ⟨_, h, _⟩ => by cases h⟩
    | some k => cases k <;> simp [Wp]
  simp only [wp_bind, this]
theorem x_lst : Wp (evE T b (.lst es) ρ μ) Q E ↔ Wp (evEs T b es ρ μ) (fun ds μ1 => ds.length ≤ sizeLine ∧ Q (.lst ds, 1) μ1) E := by
  show Wp ((evEs T b es ρ μ).bind fun ds μ1 => if ds.length ≤ sizeLine then .ok (.lst ds, 1) μ1 else .bad) Q E ↔ _
  simp only [wp_bind, wp_if, wp_ok, wp_bad]
  have : ∀ (p q : Prop), (p → q) ∧ (¬ p → False) ↔ p ∧ q := fun p q => ⟨fun ⟨h1, h2⟩ => have hp := Classical.byContradiction h2; ⟨hp, h1 hp⟩, fun ⟨h1, h2⟩ => ⟨fun _ => h2, fun n => n h1⟩⟩
  simp only [this]
theorem x_tup : Wp (evE T b (.tup es) ρ μ) Q E ↔ Wp (evEs T b es ρ μ) (fun ds μ1 => ds.length ≤ sizeLine ∧ Q (.tup ds, 0) μ1) E := by
  show Wp ((evEs T b es ρ μ).bind fun ds μ1 => if ds.length ≤ sizeLine then .ok (.tup ds, 0) μ1 else .bad) Q E ↔ _
  simp only [wp_bind, wp_if, wp_ok, wp_bad]
  have : ∀ (p q : Prop), (p → q) ∧ (¬ p → False) ↔ p ∧ q := fun p q => ⟨fun ⟨h1, h2⟩ => have hp := Classical.byContradiction h2; ⟨hp, h1 hp⟩, fun ⟨h1, h2⟩ => ⟨fun _ => h2, fun n => n h1⟩⟩
  simp only [this]
theorem x_ix : Wp (evE T b (.ix x y) ρ μ) Q E ↔ Wp (evE T b x ρ μ) (fun d μ1 => Wp (evE T b y ρ μ1) (fun e μ2 => ∃ r, ixD d.1 e.1 μ2 = some r ∧ Q (r, 0) μ2) E) E := by
  show Wp ((evE T b x ρ μ).bind fun d μ1 => (evE T b y ρ μ1).bind fun e μ2 => sh (ixD d.1 e.1 μ2) μ2) Q E ↔ _
  simp only [wp_bind, wp_sh]
theorem x_call {f : Str} : Wp (evE T b (.call f es) ρ μ) Q E ↔ Wp (evEs T b es ρ μ) (fun ds μ1 => Wp (T.call f b ds μ1) Q E) E := by
  show Wp ((evEs T b es ρ μ).bind fun ds μ1 => T.call f b ds μ1) Q E ↔ _
  simp only [wp_bind]
theorem x_bi {f : Str} : Wp (evE T b (.bi f es) ρ μ) Q E ↔ Wp (evEs T b es ρ μ) (fun ds μ1 => Wp (biD f ds μ1) Q E) E := by
  show Wp ((evEs T b es ρ μ).bind fun ds μ1 => biD f ds μ1) Q E ↔ _
  simp only [wp_bind]
theorem x_thaw : Wp (evE T b (.thaw x) ρ μ) Q E ↔ Wp (evE T b x ρ μ) (fun d μ1 => ∃ xs f, d = (.lst xs, f + 1) ∧ Q (.cell μ1.length, 0) (μ1 ++ [.lst xs])) E := by
  show Wp ((evE T b x ρ μ).bind fun d μ1 => match d with | (.lst xs, f + 1) => .ok (.cell μ1.length, 0) (μ1 ++ [.lst xs]) | _ => .bad) Q E ↔ _
  have : ∀ (d : D × Nat) (μ1 : Sto), Wp (match d with | (.lst xs, f + 1) => .ok (.cell μ1.length, 0) (μ1 ++ [.lst xs]) | _ => (.bad : R (D × Nat))) Q E ↔ ∃ xs f, d = (.lst xs, f + 1) ∧ Q (.cell μ1.length, 0) (μ1 ++ [.lst xs]) := by
    intro d μ1
    obtain ⟨d, f⟩ := d
    cases d with
    | lst xs =>
      cases f with
      | zero => exact ⟨fun h => h.elim, fun ⟨_, _, h, _⟩ => by cases h⟩
      | succ f => exact ⟨fun h => ⟨xs, f, rfl, h⟩, fun ⟨_, _, h, q⟩ => by cases h; exact q⟩
    | _ => exact ⟨fun h => h.elim, fun ⟨_, _, h, _⟩ => by cases h⟩
  simp only [wp_bind, this]
end
theorem ws_nilE {Q : List D → Sto → Prop} : Wp (evEs T b .nil ρ μ) Q E ↔ Q [] μ := Iff.rfl
theorem ws_consE {Q : List D → Sto → Prop} {x : VM.E} {es : VM.Es} : Wp (evEs T b (.cons x es) ρ μ) Q E ↔ Wp (evE T b x ρ μ) (fun d μ1 => Wp (evEs T b es ρ μ1) (fun ds μ2 => Q (d.1 :: ds) μ2) E) E := by
  show Wp ((evE T b x ρ μ).bind fun d μ1 => (evEs T b es ρ μ1).bind fun ds μ2 => .ok (d.1 :: ds) μ2) Q E ↔ _
  simp only [wp_bind, wp_ok]
/-! calls -/
theorem wp_run {p s : Nat} {body : Ss} {ds : List D} {Q : D × Nat → Sto → Prop} (h : ds.length = p) : Wp (runFn T ⟨p, s, false, body⟩ b ds μ) Q E ↔
    Ws (runSs T μ.length body (ds.map some ++ List.replicate (s - p) none) μ) (fun _ μ' => Q (.non, 0) (μ'.take μ.length)) (fun d f μ' => ∃ x, frzTop μ.length d f μ' = some x ∧ Q x (μ'.take μ.length)) (fun _ _ => False) (fun _ _ => False) (fun x _ μ' => E x (μ'.take μ.length)) := by
  unfold runFn
  rw [if_pos h]
  show Wp (exitF false μ.length (runSs T μ.length body (ds.map some ++ List.replicate (s - p) none) μ)) Q E ↔ _
  cases runSs T μ.length body (ds.map some ++ List.replicate (s - p) none) μ with
  | ret d f μ' => exact wp_okR
  | _ => exact Iff.rfl
end


section
variable {E : Exc → Sto → Prop} {μ : Sto} {T : Tb} {b : Nat} {ρ : Ev} {Q : D × Nat → Sto → Prop}
theorem y_var {i : Nat} : Wp (evE T b (.var i) ρ μ) Q E ↔ ∃ d, ρ[i]? = some (some d) ∧ Q (d, 0) μ := by
  show Wp (match ρ[i]? with | some (some d) => .ok (d, 0) μ | _ => .bad) Q E ↔ _
  cases h : ρ[i]? with
  | none => exact ⟨fun h => h.elim, fun ⟨_, h, _⟩ => by cases h⟩
  | some o =>
    cases o with
    | none => exact ⟨fun h => h.elim, fun ⟨_, h, _⟩ => by cases h⟩
    | some d => exact ⟨fun h => ⟨d, rfl, h⟩, fun ⟨_, h, q⟩ => by cases h; exact q⟩
theorem and_if {p q : Prop} : ((p → q) ∧ (¬ p → False)) ↔ p ∧ q := ⟨fun ⟨h1, h2⟩ => have hp := Classical.byContradiction h2; ⟨hp, h1 hp⟩, fun ⟨h1, h2⟩ => ⟨fun _ => h2, fun n => n h1⟩⟩
section
variable {i j : Int}
theorem n_add : Wp (binD .Add (.int i) (.int j) μ) Q E ↔ Q (.int (i + j), 0) μ := Iff.rfl
theorem n_sub : Wp (binD .Sub (.int i) (.int j) μ) Q E ↔ Q (.int (i - j), 0) μ := Iff.rfl
theorem n_mul : Wp (binD .Mult (.int i) (.int j) μ) Q E ↔ i.natAbs.log2 + j.natAbs.log2 < 130000000 ∧ Q (.int (i * j), 0) μ := by
  show Wp (if i.natAbs.log2 + j.natAbs.log2 < 130000000 then .ok (.int (i * j), 0) μ else .bad) Q E ↔ _
  rw [wp_if]; exact and_if
theorem n_mod : Wp (binD .Mod (.int i) (.int j) μ) Q E ↔ j ≠ 0 ∧ Q (.int (i.fmod j), 0) μ := by
  show Wp (sh ((if j ≠ 0 then some (i.fmod j) else none).map .int) μ) Q E ↔ _
  by_cases h : j ≠ 0
  · rw [if_pos h]; exact ⟨fun q => ⟨h, q⟩, fun q => q.2⟩
  · rw [if_neg h]; exact ⟨fun q => q.elim, fun q => absurd q.1 h⟩
theorem n_fdiv : Wp (binD .FloorDiv (.int i) (.int j) μ) Q E ↔ (j ≠ 0 ∧ j.natAbs.log2 < 9000) ∧ Q (.int (i.fdiv j), 0) μ := by
  show Wp (sh ((if j ≠ 0 ∧ j.natAbs.log2 < 9000 then some (i.fdiv j) else none).map .int) μ) Q E ↔ _
  by_cases h : j ≠ 0 ∧ j.natAbs.log2 < 9000
  · rw [if_pos h]; exact ⟨fun q => ⟨h, q⟩, fun q => q.2⟩
  · rw [if_neg h]; exact ⟨fun q => q.elim, fun q => absurd q.1 h⟩
theorem n_pow : Wp (binD .Pow (.int i) (.int j) μ) Q E ↔ (0 ≤ j ∧ j ≤ 1000000 ∧ i.natAbs < 2 ^ 64) ∧ Q (.int (i ^ j.toNat), 0) μ := by
  show Wp (sh ((if 0 ≤ j ∧ j ≤ 1000000 ∧ i.natAbs < 2 ^ 64 then some (i ^ j.toNat) else none).map .int) μ) Q E ↔ _
  by_cases h : 0 ≤ j ∧ j ≤ 1000000 ∧ i.natAbs < 2 ^ 64
  · rw [if_pos h]; exact ⟨fun q => ⟨h, q⟩, fun q => q.2⟩
  · rw [if_neg h]; exact ⟨fun q => q.elim, fun q => absurd q.1 h⟩
theorem n_neg : Wp (negD (.int i) μ) Q E ↔ Q (.int (-i), 0) μ := Iff.rfl
theorem c_lt : cmpD .Lt (.int i) (.int j) μ = some (decide (i < j)) := rfl
theorem c_le : cmpD .LtE (.int i) (.int j) μ = some (decide (i ≤ j)) := rfl
theorem c_gt : cmpD .Gt (.int i) (.int j) μ = some (decide (i > j)) := rfl
theorem c_ge : cmpD .GtE (.int i) (.int j) μ = some (decide (i ≥ j)) := rfl
theorem shaped_int : SeqAt.shaped (.int i) = true := by unfold SeqAt.shaped; rfl
theorem eqv_int : PyData.eqv (.int i) (.int j) = decide (i = j) := by
  unfold PyData.eqv
  first | rfl | simp [PyData.eqv] 
theorem c_eq : cmpD .Eq (.int i) (.int j) μ = some (decide (i = j)) := by
  show (if SeqAt.shaped (.int i) && SeqAt.shaped (.int j) then some (PyData.eqv (.int i) (.int j)) else none) = _
  rw [shaped_int, shaped_int, eqv_int]; rfl
theorem c_ne : cmpD .NotEq (.int i) (.int j) μ = some (decide (i ≠ j)) := by
  show (cmpD .Eq (.int i) (.int j) μ).map (fun k => !k) = _
  rw [c_eq]
  simp
end
theorem t_bl {k : Bool} : truD μ (.bl k) = some k := rfl
theorem t_int {i : Int} : truD μ (.int i) = some (i != 0) := rfl
theorem f_int {n f : Nat} {i : Int} : frzTop n (.int i) f μ = some (.int i, f) := rfl
theorem f_bl {n f : Nat} {k : Bool} : frzTop n (.bl k) f μ = some (.bl k, f) := rfl
theorem f_non {n f : Nat} : frzTop n .non f μ = some (.non, f) := rfl
theorem f_str {n f : Nat} {s : Str} : frzTop n (.str s) f μ = some (.str s, f) := rfl
theorem ix_cell {l : Nat} {xs : List D} {i : Int} (h : μ[l]? = some (.lst xs)) : ixD (.cell l) (.int i) μ = atI xs i := by
  show (match (match μ[l]? with | some (C.lst xs) => some xs | _ => none) with | some xs => atI xs i | none => none) = _
  rw [h]
theorem ix_lst {xs : List D} {i : Int} : ixD (.lst xs) (.int i) μ = atI xs i := rfl
theorem ix_tup {xs : List D} {i : Int} : ixD (.tup xs) (.int i) μ = atI xs i := rfl
theorem ix_scr {ns : List Int} {i : Int} : ixD (.scr ns) (.int i) μ = atI (ns.map .int) i := rfl
theorem atN {α : Type} {xs : List α} {i : Int} (h0 : 0 ≤ i) (h1 : i < xs.length) : atI xs i = xs[i.toNat]? := by
  unfold atI ixN
  rw [if_pos h0, if_pos h1]; rfl
theorem at0 {α : Type} {x : α} {xs : List α} : atI (x :: xs) 0 = some x := by
  rw [atN (by decide) (by simp only [List.length_cons]; omega)]; rfl
theorem at1 {α : Type} {x y : α} {xs : List α} : atI (x :: y :: xs) 1 = some y := by
  rw [atN (by decide) (by simp only [List.length_cons]; omega)]; rfl
theorem at2 {α : Type} {x y z : α} {xs : List α} : atI (x :: y :: z :: xs) 2 = some z := by
  rw [atN (by decide) (by simp only [List.length_cons]; omega)]; rfl
theorem ixN_ok {n : Nat} {i : Int} (h0 : 0 ≤ i) (h1 : i < n) : ixN n i = some i.toNat := by
  unfold ixN
  rw [if_pos h0, if_pos h1]
theorem set_cell {l j : Nat} {xs : List D} {i : Int} {v : D} (h : μ[l]? = some (.lst xs)) (hj : ixN xs.length i = some j) (hp : mayPut b l v = true) : setD b (.cell l) (.int i) v μ = some (μ.set l (.lst (xs.set j v))) := by
  unfold setD
  simp only [h, hj, hp, if_true]
theorem put_int {l : Nat} {i : Int} : mayPut b l (.int i) = true := by unfold mayPut; simp [noRef]
end


section
variable {E : Exc → Sto → Prop} {μ : Sto} {T : Tb} {b : Nat} {ρ : Ev} {N Bk Ct : Ev → Sto → Prop} {Rt : D → Nat → Sto → Prop} {X : Exc → Ev → Sto → Prop}
theorem wp_noErr {α : Type} {r : R α} {Q : α → Sto → Prop} : Wp (noErr r) Q E ↔ Wp r Q NoX := by cases r <;> exact Iff.rfl
theorem x_lc {elt c : VM.E} {tg : VM.Tg} {it : VM.It} {own : List Nat} {Q : D × Nat → Sto → Prop} : Wp (evE T b (.lc elt tg it c own) ρ μ) Q E ↔ Wp (evIt T b it ρ μ) (fun src μ1 => Wp (lcLoop (lcF T b elt tg c own ρ) src (src.size μ1 + 1) 0 [] μ1) (fun xs μ2 => Q (.lst xs, 1) μ2) NoX) E := by
  rw [evE_lc]
  simp only [wp_bind, wp_noErr, wp_ok]
theorem lc_name {elt c : VM.E} {i : Nat} {own : List Nat} {x : D} {Q : Option D → Sto → Prop} : Wp (lcF T b elt (.name i) c own ρ x μ) Q E ↔ Wp (evE T b c ((wipeD ρ own).set i (some x)) μ) (fun k μ1 => ∃ t, truD μ1 k.1 = some t ∧ (t = true → Wp (evE T b elt ((wipeD ρ own).set i (some x)) μ1) (fun y μ2 => Q (some y.1) μ2) E) ∧ (t = false → Q none μ1)) E := by
  show Wp ((evE T b c ((wipeD ρ own).set i (some x)) μ).bind fun k μ1 => match truD μ1 k.1 with
    | some true => (evE T b elt ((wipeD ρ own).set i (some x)) μ1).bind fun y μ2 => .ok (some y.1) μ2
    | some false => .ok none μ1
    | none => .bad) Q E ↔ _
  have : ∀ (k : D × Nat) (μ1 : Sto), Wp (match truD μ1 k.1 with
    | some true => (evE T b elt ((wipeD ρ own).set i (some x)) μ1).bind fun y μ2 => .ok (some y.1) μ2
    | some false => .ok none μ1
    | none => .bad) Q E ↔ ∃ t, truD μ1 k.1 = some t ∧ (t = true → Wp (evE T b elt ((wipeD ρ own).set i (some x)) μ1) (fun y μ2 => Q (some y.1) μ2) E) ∧ (t = false → Q none μ1) := by
    intro k μ1
    cases truD μ1 k.1 with
    | none => exact ⟨fun h => h.elim, fun ⟨_, h, _⟩ => by cases h⟩
    | some t =>
      cases t with
      | true =>
        simp only [wp_bind, wp_ok]
        exact ⟨fun h => ⟨true, rfl, fun _ => h, fun z => by cases z⟩, fun ⟨_, h, h1, _⟩ => by cases h; exact h1 rfl⟩
      | false => exact ⟨fun h => ⟨false, rfl, fun z => (by cases z), fun _ => h⟩, fun ⟨_, h, _, h1⟩ => by cases h; exact h1 rfl⟩
  simp only [wp_bind, this]
theorem lc_two {elt c : VM.E} {i j : Nat} {own : List Nat} {x y : D} {Q : Option D → Sto → Prop} : Wp (lcF T b elt (.tup (.cons (.name i) (.cons (.name j) .nil))) c own ρ (.tup [x, y]) μ) Q E ↔ Wp (evE T b c (((wipeD ρ own).set i (some x)).set j (some y)) μ) (fun k μ1 => ∃ t, truD μ1 k.1 = some t ∧ (t = true → Wp (evE T b elt (((wipeD ρ own).set i (some x)).set j (some y)) μ1) (fun y μ2 => Q (some y.1) μ2) E) ∧ (t = false → Q none μ1)) E := by
  show Wp ((evE T b c (((wipeD ρ own).set i (some x)).set j (some y)) μ).bind fun k μ1 => match truD μ1 k.1 with
    | some true => (evE T b elt (((wipeD ρ own).set i (some x)).set j (some y)) μ1).bind fun y μ2 => .ok (some y.1) μ2
    | some false => .ok none μ1
    | none => .bad) Q E ↔ _
  have : ∀ (k : D × Nat) (μ1 : Sto), Wp (match truD μ1 k.1 with
    | some true => (evE T b elt (((wipeD ρ own).set i (some x)).set j (some y)) μ1).bind fun y μ2 => .ok (some y.1) μ2
    | some false => .ok none μ1
    | none => .bad) Q E ↔ ∃ t, truD μ1 k.1 = some t ∧ (t = true → Wp (evE T b elt (((wipeD ρ own).set i (some x)).set j (some y)) μ1) (fun y μ2 => Q (some y.1) μ2) E) ∧ (t = false → Q none μ1) := by
    intro k μ1
    cases truD μ1 k.1 with
    | none => exact ⟨fun h => h.elim, fun ⟨_, h, _⟩ => by cases h⟩
    | some t =>
      cases t with
      | true =>
        simp only [wp_bind, wp_ok]
        exact ⟨fun h => ⟨true, rfl, fun _ => h, fun z => by cases z⟩, fun ⟨_, h, h1, _⟩ => by cases h; exact h1 rfl⟩
      | false => exact ⟨fun h => ⟨false, rfl, fun z => (by cases z), fun _ => h⟩, fun ⟨_, h, _, h1⟩ => by cases h; exact h1 rfl⟩
  simp only [wp_bind, this]
/-- a comprehension's loop, by an invariant; xs what is walked -/
theorem wp_lcLoop {F : D → Sto → R (Option D)} {src : Src} {xs : List D} {Q : List D → Sto → Prop} (I : Nat → List D → Sto → Prop) (hsrc : ∀ i acc μ', I i acc μ' → src.at μ' i = nxO xs[i]?) (hsz : src.size μ = xs.length) (h0 : I 0 [] μ)
    (hs : ∀ i x acc μ', xs[i]? = some x → I i acc μ' → Wp (F x μ') (fun y μ2 => match y with | none => I (i + 1) acc μ2 | some d => acc.length < sizeLine ∧ I (i + 1) (acc ++ [d]) μ2) E) (he : ∀ acc μ', I xs.length acc μ' → Q acc μ') :
    Wp (lcLoop F src (src.size μ + 1) 0 [] μ) Q E := by
  have key : ∀ (k i : Nat) (acc : List D) (μ' : Sto), i + k = xs.length + 1 → i ≤ xs.length → I i acc μ' → Wp (lcLoop F src k i acc μ') Q E := by
    intro k
    induction k with
    | zero => intro i acc μ' h1 h2 _; omega
    | succ k ih =>
      intro i acc μ' h1 h2 hI
      show Wp (match src.at μ' i with
        | .bad => .bad
        | .done => .ok acc μ'
        | .item x => (F x μ').bind fun y μ1 => match y with
          | none => lcLoop F src k (i + 1) acc μ1
          | some d => if acc.length < sizeLine then lcLoop F src k (i + 1) (acc ++ [d]) μ1 else .bad) Q E
      rw [hsrc i acc μ' hI]
      by_cases hi : i < xs.length
      · rw [List.getElem?_eq_getElem hi]
        have := hs i xs[i] acc μ' (List.getElem?_eq_getElem hi) hI
        show Wp ((F xs[i] μ').bind _) Q E
        rw [wp_bind]
        refine wp_mono this (fun y μ2 h => ?_) fun _ _ h => h
        cases y with
        | none => exact ih _ _ _ (by omega) (by omega) h
        | some d =>
          show Wp (if acc.length < sizeLine then lcLoop F src k (i + 1) (acc ++ [d]) μ2 else .bad) Q E
          rw [if_pos h.1]
          exact ih _ _ _ (by omega) (by omega) h.2
      · have hi : i = xs.length := by omega
        subst hi
        rw [List.getElem?_eq_none (Nat.le_refl _)]
        exact he acc μ' hI
  rw [hsz]
  exact key _ 0 [] μ (by omega) (by omega) h0
/-- nothing is written on the way -/
theorem wp_lcPure {F : D → Sto → R (Option D)} {src : Src} {xs : List D} {Q : List D → Sto → Prop} (g : D → Option D) (hsrc : ∀ i, src.at μ i = nxO xs[i]?) (hsz : src.size μ = xs.length) (hlen : xs.length ≤ sizeLine)
    (hs : ∀ x ∈ xs, Wp (F x μ) (fun y μ2 => μ2 = μ ∧ y = g x) E) (he : Q (xs.filterMap g) μ) : Wp (lcLoop F src (src.size μ + 1) 0 [] μ) Q E := by
  refine wp_lcLoop (xs := xs) (fun i acc μ' => μ' = μ ∧ acc = (xs.take i).filterMap g) (fun i acc μ' h => by rw [h.1]; exact hsrc i) hsz ⟨rfl, by simp⟩ (fun i x acc μ' hx hI => ?_) fun acc μ' hI => ?_
  · obtain ⟨rfl, rfl⟩ := hI
    have hi := (List.getElem?_eq_some_iff.mp hx).1
    have e : xs.take (i + 1) = xs.take i ++ [x] := by rw [List.take_add_one, hx]; rfl
    refine wp_mono (hs x (List.mem_of_getElem? hx)) (fun y μ2 h => ?_) fun _ _ h => h
    obtain ⟨rfl, rfl⟩ := h
    have l1 : ((xs.take i).filterMap g).length ≤ i := Nat.le_trans (List.length_filterMap_le _ _) (by rw [List.length_take]; omega)
    cases q : g x with
    | none => exact ⟨rfl, by rw [e, List.filterMap_append]; simp [q]⟩
    | some d => exact ⟨by omega, rfl, by rw [e, List.filterMap_append]; simp [q]⟩
  · obtain ⟨rfl, rfl⟩ := hI
    rw [List.take_length]; exact he
theorem src_data {xs : List D} (i : Nat) : (Src.data xs).at μ i = nxO xs[i]? := rfl
theorem src_cell {l : Nat} {xs : List D} (h : μ[l]? = some (.lst xs)) (i : Nat) : (Src.cell l).at μ i = nxO xs[i]? := by unfold Src.at; rw [h]
theorem size_cell {l : Nat} {xs : List D} (h : μ[l]? = some (.lst xs)) : (Src.cell l).size μ = xs.length := by unfold Src.size; rw [h]
theorem src_zip {a c : Src} {xs ys : List D} {i : Nat} (h1 : a.at μ i = nxO xs[i]?) (h2 : c.at μ i = nxO ys[i]?) : (Src.zip a c).at μ i = nxO (xs.zipWith (fun x y => D.tup [x, y]) ys)[i]? := by
  show nxZ (a.at μ i) (c.at μ i) = _
  rw [h1, h2, List.getElem?_zipWith]
  cases xs[i]? <;> cases ys[i]? <;> rfl
/-- a for loop over what is walked, by an invariant -/
theorem ws_for {i : Nat} {it : VM.It} {body : Ss} (h : Wp (evIt T b it ρ μ) (fun src μ1 => ∃ (xs : List D) (I : Nat → Ev → Sto → Prop), (∀ k ρ' μ', I k ρ' μ' → src.at μ' k = nxO xs[k]?) ∧ src.size μ1 = xs.length ∧ I 0 ρ μ1 ∧
      (∀ k x ρ' μ', xs[k]? = some x → I k ρ' μ' → Ws (runSs T b body (ρ'.set i (some x)) μ') (I (k + 1)) Rt N (I (k + 1)) X) ∧ ∀ ρ' μ', I xs.length ρ' μ' → N ρ' μ') (fun x μ => X x ρ μ)) :
    Ws (runS T b (.for_ (.name i) it body) ρ μ) N Rt Bk Ct X := by
  show Ws ((evIt T b it ρ μ).st ρ fun src μ1 => forLoop (asg T b (.name i)) (fun ρ μ => runSs T b body ρ μ) src (src.size μ1 + 1) 0 ρ μ1) N Rt Bk Ct X
  rw [ws_st]
  refine wp_mono h (fun src μ1 ⟨xs, I, hsrc, hsz, h0, hs, he⟩ => ?_) fun _ _ h => h
  have key : ∀ (k j : Nat) (ρ' : Ev) (μ' : Sto), j + k = xs.length + 1 → j ≤ xs.length → I j ρ' μ' → Ws (forLoop (asg T b (.name i)) (fun ρ μ => runSs T b body ρ μ) src k j ρ' μ') N Rt Bk Ct X := by
    intro k
    induction k with
    | zero => intro j ρ' μ' h1 h2 _; omega
    | succ k ih =>
      intro j ρ' μ' h1 h2 hI
      show Ws (match src.at μ' j with
        | .bad => .bad
        | .done => .nx ρ' μ'
        | .item x => match asg T b (.name i) x ρ' μ' with
          | .nx ρ1 μ1 => match runSs T b body ρ1 μ1 with
            | .nx ρ2 μ2 => forLoop (asg T b (.name i)) (fun ρ μ => runSs T b body ρ μ) src k (j + 1) ρ2 μ2
            | .ct ρ2 μ2 => forLoop (asg T b (.name i)) (fun ρ μ => runSs T b body ρ μ) src k (j + 1) ρ2 μ2
            | .brk ρ2 μ2 => .nx ρ2 μ2
            | r => r
          | .err x ρ μ => .err x ρ μ
          | _ => .bad) N Rt Bk Ct X
      rw [hsrc j ρ' μ' hI]
      by_cases hj : j < xs.length
      · rw [List.getElem?_eq_getElem hj]
        have := hs j xs[j] ρ' μ' (List.getElem?_eq_getElem hj) hI
        show Ws (match runSs T b body (ρ'.set i (some xs[j])) μ' with
            | .nx ρ2 μ2 => forLoop (asg T b (.name i)) (fun ρ μ => runSs T b body ρ μ) src k (j + 1) ρ2 μ2
            | .ct ρ2 μ2 => forLoop (asg T b (.name i)) (fun ρ μ => runSs T b body ρ μ) src k (j + 1) ρ2 μ2
            | .brk ρ2 μ2 => .nx ρ2 μ2
            | r => r) N Rt Bk Ct X
        cases q : runSs T b body (ρ'.set i (some xs[j])) μ' with
        | nx ρ2 μ2 => rw [q] at this; exact ih _ _ _ (by omega) (by omega) this
        | ct ρ2 μ2 => rw [q] at this; exact ih _ _ _ (by omega) (by omega) this
        | brk ρ2 μ2 => rw [q] at this; exact this
        | ret d f μ2 => rw [q] at this; exact this
        | err x ρ2 μ2 => rw [q] at this; exact this
        | bad => rw [q] at this; exact this
      · have hj : j = xs.length := by omega
        subst hj
        rw [List.getElem?_eq_none (Nat.le_refl _)]
        exact he ρ' μ' hI
  rw [hsz]
  exact key _ 0 ρ μ1 (by omega) (by omega) h0
/-! what is walked -/
section
variable {Q : Src → Sto → Prop} {x y : VM.E}
theorem i_exD : Wp (evIt T b (.ex x) ρ μ) Q E ↔ Wp (evE T b x ρ μ) (fun d μ1 => ∃ s, srcIt μ1 d.1 = some s ∧ Q s μ1) E := by
  show Wp ((evE T b x ρ μ).bind fun d μ1 => okR (srcIt μ1 d.1) μ1) Q E ↔ _
  simp only [wp_bind, wp_okR]
theorem i_r1 : Wp (evIt T b (.rng1 x) ρ μ) Q E ↔ Wp (evE T b x ρ μ) (fun d μ1 => ∃ j, d.1 = .int j ∧ smallI j = true ∧ Q (.data (rangeD 0 j.toNat)) μ1) E := by
  show Wp ((evE T b x ρ μ).bind fun d μ1 => match d.1 with | .int j => if smallI j then .ok (.data (rangeD 0 j.toNat)) μ1 else .bad | _ => .bad) Q E ↔ _
  have : ∀ (d : D × Nat) (μ1 : Sto), Wp (match d.1 with | .int j => if smallI j then .ok (.data (rangeD 0 j.toNat)) μ1 else .bad | _ => (.bad : R Src)) Q E ↔ ∃ j, d.1 = .int j ∧ smallI j = true ∧ Q (.data (rangeD 0 j.toNat)) μ1 := by
    intro d μ1
    obtain ⟨d, f⟩ := d
    cases d with
    | int j =>
      show Wp (if smallI j then .ok (.data (rangeD 0 j.toNat)) μ1 else .bad) Q E ↔ _
      rw [wp_if]
      exact ⟨fun h => ⟨j, rfl, (and_if.mp h).1, (and_if.mp h).2⟩, fun ⟨_, h, h1, h2⟩ => by cases h; exact and_if.mpr ⟨h1, h2⟩⟩
    | _ => exact ⟨fun h => h.elim, fun ⟨_, h, _⟩ => by cases h⟩
  simp only [wp_bind, this]
theorem i_r2 : Wp (evIt T b (.rng2 x y) ρ μ) Q E ↔ Wp (evE T b x ρ μ) (fun d μ1 => Wp (evE T b y ρ μ1) (fun e μ2 => ∃ i, d.1 = .int i ∧ ∃ j, e.1 = .int j ∧ (smallI i && smallI j) = true ∧ Q (.data (rangeD i (j - i).toNat)) μ2) E) E := by
  show Wp ((evE T b x ρ μ).bind fun d μ1 => (evE T b y ρ μ1).bind fun h μ2 => match d.1, h.1 with
    | .int i, .int j => if smallI i && smallI j then .ok (.data (rangeD i (j - i).toNat)) μ2 else .bad
    | _, _ => .bad) Q E ↔ _
  have : ∀ (d h : D × Nat) (μ2 : Sto), Wp (match d.1, h.1 with
    | .int i, .int j => if smallI i && smallI j then .ok (.data (rangeD i (j - i).toNat)) μ2 else .bad
    | _, _ => (.bad : R Src)) Q E ↔ ∃ i, d.1 = .int i ∧ ∃ j, h.1 = .int j ∧ (smallI i && smallI j) = true ∧ Q (.data (rangeD i (j - i).toNat)) μ2 := by
    intro d h μ2
    obtain ⟨d, f⟩ := d
    obtain ⟨h, f2⟩ := h
    cases d with
    | int i =>
      cases h with
      | int j =>
        show Wp (if (smallI i && smallI j) = true then .ok (.data (rangeD i (j - i).toNat)) μ2 else .bad) Q E ↔ _
        rw [wp_if]
        exact ⟨fun h => ⟨i, rfl, j, rfl, (and_if.mp h).1, (and_if.mp h).2⟩, fun ⟨_, h, _, h', h1, h2⟩ => by cases h; cases h'; exact and_if.mpr ⟨h1, h2⟩⟩
      | _ => exact ⟨fun h => h.elim, fun ⟨_, _, _, h, _⟩ => by cases h⟩
    | _ => exact ⟨fun h => h.elim, fun ⟨_, h, _⟩ => by cases h⟩
  simp only [wp_bind, this]
theorem i_zp : Wp (evIt T b (.zip x y) ρ μ) Q E ↔ Wp (evE T b x ρ μ) (fun d μ1 => Wp (evE T b y ρ μ1) (fun e μ2 => ∃ i, srcL μ2 d.1 = some i ∧ ∃ j, srcL μ2 e.1 = some j ∧ Q (.zip i j) μ2) E) E := by
  show Wp ((evE T b x ρ μ).bind fun d μ1 => (evE T b y ρ μ1).bind fun h μ2 => match srcL μ2 d.1, srcL μ2 h.1 with
    | some x, some y => .ok (.zip x y) μ2
    | _, _ => .bad) Q E ↔ _
  have : ∀ (d h : D × Nat) (μ2 : Sto), Wp (match srcL μ2 d.1, srcL μ2 h.1 with
    | some x, some y => .ok (.zip x y) μ2
    | _, _ => (.bad : R Src)) Q E ↔ ∃ i, srcL μ2 d.1 = some i ∧ ∃ j, srcL μ2 h.1 = some j ∧ Q (.zip i j) μ2 := by
    intro d h μ2
    cases srcL μ2 d.1 <;> cases srcL μ2 h.1 <;> simp [Wp]
  simp only [wp_bind, this]
end
end
end VM.U

set_option Elab.async false
set_option maxRecDepth 10000
set_option autoImplicit false
set_option linter.unusedVariables false
set_option linter.unusedSimpArgs false
set_option linter.unusedSectionVars false
/-! the same, sealed: nothing looks inside by itself -/
namespace VM
open PySem L2
structure Wp {α : Type} (r : R α) (Q : α → Sto → Prop) (E : Exc → Sto → Prop) : Prop where
  out : U.Wp r Q E
structure Ws (r : RS) (N : Ev → Sto → Prop) (Rt : D → Nat → Sto → Prop) (Bk Ct : Ev → Sto → Prop) (E : Exc → Ev → Sto → Prop) : Prop where
  out : U.Ws r N Rt Bk Ct E
theorem wpS {α : Type} (r : R α) (Q : α → Sto → Prop) (E : Exc → Sto → Prop) : Wp r Q E = U.Wp r Q E := propext ⟨fun h => h.out, fun h => ⟨h⟩⟩
theorem wsS (r : RS) (N : Ev → Sto → Prop) (Rt : D → Nat → Sto → Prop) (Bk Ct : Ev → Sto → Prop) (E : Exc → Ev → Sto → Prop) : Ws r N Rt Bk Ct E = U.Ws r N Rt Bk Ct E := propext ⟨fun h => h.out, fun h => ⟨h⟩⟩

section
variable {α β : Type} {Q : α → Sto → Prop} {Q2 : β → Sto → Prop} {E : Exc → Sto → Prop} {μ : Sto} {T : Tb} {b : Nat} {ρ : Ev}
variable {N Bk Ct : Ev → Sto → Prop} {Rt : D → Nat → Sto → Prop} {X : Exc → Ev → Sto → Prop}
theorem wp_ok {a : α} : Wp (.ok a μ) Q E ↔ Q a μ := by
  simp only [wpS, wsS] at *
  exact U.wp_ok 
theorem wp_bad : Wp (.bad : R α) Q E ↔ False := by
  simp only [wpS, wsS] at *
  exact U.wp_bad 
theorem wp_err {x : Exc} : Wp (.err x μ : R α) Q E ↔ E x μ := by
  simp only [wpS, wsS] at *
  exact U.wp_err 
theorem wp_bind {r : R α} {f : α → Sto → R β} : Wp (r.bind f) Q2 E ↔ Wp r (fun a μ => Wp (f a μ) Q2 E) E := by
  simp only [wpS, wsS] at *
  exact U.wp_bind 
theorem wp_mono {r : R α} {Q' : α → Sto → Prop} {E' : Exc → Sto → Prop} (h : Wp r Q E) (k : ∀ a μ, Q a μ → Q' a μ) (j : ∀ x μ, E x μ → E' x μ) : Wp r Q' E' := by
  simp only [wpS, wsS] at *
  exact U.wp_mono h k j
theorem wp_okR {o : Option α} : Wp (okR o μ) Q E ↔ ∃ a, o = some a ∧ Q a μ := by
  simp only [wpS, wsS] at *
  exact U.wp_okR 
theorem wp_if {c : Prop} [Decidable c] {r s : R α} : Wp (if c then r else s) Q E ↔ (c → Wp r Q E) ∧ (¬ c → Wp s Q E) := by
  simp only [wpS, wsS] at *
  exact U.wp_if 
theorem ws_st {r : R α} {f : α → Sto → RS} : Ws (r.st ρ f) N Rt Bk Ct X ↔ Wp r (fun a μ => Ws (f a μ) N Rt Bk Ct X) (fun x μ => X x ρ μ) := by
  simp only [wpS, wsS] at *
  exact U.ws_st 
theorem ws_nx : Ws (.nx ρ μ) N Rt Bk Ct X ↔ N ρ μ := by
  simp only [wpS, wsS] at *
  exact U.ws_nx 
theorem ws_ret {d : D} {f : Nat} : Ws (.ret d f μ) N Rt Bk Ct X ↔ Rt d f μ := by
  simp only [wpS, wsS] at *
  exact U.ws_ret 
theorem ws_cons {s : VM.S} {ss : Ss} : Ws (runSs T b (.cons s ss) ρ μ) N Rt Bk Ct X ↔ Ws (runS T b s ρ μ) (fun ρ1 μ1 => Ws (runSs T b ss ρ1 μ1) N Rt Bk Ct X) Rt Bk Ct X := by
  simp only [wpS, wsS] at *
  exact U.ws_cons 
theorem ws_seq {s : VM.S} {ss : Ss} (M : Ev → Sto → Prop) (h1 : Ws (runS T b s ρ μ) M Rt Bk Ct X) (h2 : ∀ ρ1 μ1, M ρ1 μ1 → Ws (runSs T b ss ρ1 μ1) N Rt Bk Ct X) : Ws (runSs T b (.cons s ss) ρ μ) N Rt Bk Ct X := by
  simp only [wpS, wsS] at *
  exact U.ws_seq M h1 h2
theorem ws_nil : Ws (runSs T b .nil ρ μ) N Rt Bk Ct X ↔ N ρ μ := by
  simp only [wpS, wsS] at *
  exact U.ws_nil 
theorem ws_ife {t : VM.E} {x y : Ss} : Ws (runS T b (.ife t x y) ρ μ) N Rt Bk Ct X ↔ Wp (evE T b t ρ μ) (fun d μ1 => ∃ k, truD μ1 d.1 = some k ∧ (k = true → Ws (runSs T b x ρ μ1) N Rt Bk Ct X) ∧ (k = false → Ws (runSs T b y ρ μ1) N Rt Bk Ct X)) (fun x μ => X x ρ μ) := by
  simp only [wpS, wsS] at *
  exact U.ws_ife 
theorem ws_mono {r : RS} {N' Bk' Ct' : Ev → Sto → Prop} {Rt' : D → Nat → Sto → Prop} {X' : Exc → Ev → Sto → Prop} (h : Ws r N Rt Bk Ct X) (h1 : ∀ ρ μ, N ρ μ → N' ρ μ) (h2 : ∀ d f μ, Rt d f μ → Rt' d f μ) (h3 : ∀ ρ μ, Bk ρ μ → Bk' ρ μ) (h4 : ∀ ρ μ, Ct ρ μ → Ct' ρ μ) (h5 : ∀ x ρ μ, X x ρ μ → X' x ρ μ) : Ws r N' Rt' Bk' Ct' X' := by
  simp only [wpS, wsS] at *
  exact U.ws_mono h h1 h2 h3 h4 h5
/-! statements -/
theorem ws_set {i : Nat} {e : VM.E} : Ws (runS T b (.set (.name i) e) ρ μ) N Rt Bk Ct X ↔ Wp (evE T b e ρ μ) (fun d μ1 => N (ρ.set i (some d.1)) μ1) (fun x μ => X x ρ μ) := by
  simp only [wpS, wsS] at *
  exact U.ws_set 
theorem ws_ret_ {e : VM.E} : Ws (runS T b (.ret e) ρ μ) N Rt Bk Ct X ↔ Wp (evE T b e ρ μ) (fun d μ1 => Rt d.1 d.2 μ1) (fun x μ => X x ρ μ) := by
  simp only [wpS, wsS] at *
  exact U.ws_ret_ 
theorem ws_expr {e : VM.E} : Ws (runS T b (.expr e) ρ μ) N Rt Bk Ct X ↔ Wp (evE T b e ρ μ) (fun d μ1 => N ρ μ1) (fun x μ => X x ρ μ) := by
  simp only [wpS, wsS] at *
  exact U.ws_expr 
theorem ws_retn : Ws (runS T b .retn ρ μ) N Rt Bk Ct X ↔ Rt .non 0 μ := by
  simp only [wpS, wsS] at *
  exact U.ws_retn 
theorem ws_pass : Ws (runS T b .pass ρ μ) N Rt Bk Ct X ↔ N ρ μ := by
  simp only [wpS, wsS] at *
  exact U.ws_pass 
theorem ws_brk : Ws (runS T b .brk ρ μ) N Rt Bk Ct X ↔ Bk ρ μ := by
  simp only [wpS, wsS] at *
  exact U.ws_brk 
theorem ws_cnt : Ws (runS T b .cnt ρ μ) N Rt Bk Ct X ↔ Ct ρ μ := by
  simp only [wpS, wsS] at *
  exact U.ws_cnt 
theorem ws_sub {o i e : VM.E} : Ws (runS T b (.set (.sub o i) e) ρ μ) N Rt Bk Ct X ↔ Wp (evE T b e ρ μ) (fun d μ1 => Wp (evE T b o ρ μ1) (fun od μ2 => Wp (evE T b i ρ μ2) (fun id μ3 => ∃ μ4, setD b od.1 id.1 d.1 μ3 = some μ4 ∧ N ρ μ4) (fun x μ => X x ρ μ)) (fun x μ => X x ρ μ)) (fun x μ => X x ρ μ) := by
  simp only [wpS, wsS] at *
  exact U.ws_sub 
/-! expressions -/
theorem x_var {i : Nat} {d : D} {Q : D × Nat → Sto → Prop} (h : ρ[i]? = some (some d)) : Wp (evE T b (.var i) ρ μ) Q E ↔ Q (d, 0) μ := by
  simp only [wpS, wsS] at *
  exact U.x_var h
section
variable {Q : D × Nat → Sto → Prop} {x y z : VM.E} {es : VM.Es}
theorem x_non : Wp (evE T b .non ρ μ) Q E ↔ Q (.non, 0) μ := by
  simp only [wpS, wsS] at *
  exact U.x_non 
theorem x_npart : Wp (evE T b .npart ρ μ) Q E ↔ Q (.non, 0) μ := by
  simp only [wpS, wsS] at *
  exact U.x_npart 
theorem x_bl {k : Bool} : Wp (evE T b (.bl k) ρ μ) Q E ↔ Q (.bl k, 0) μ := by
  simp only [wpS, wsS] at *
  exact U.x_bl 
theorem x_int {i : Int} : Wp (evE T b (.int i) ρ μ) Q E ↔ Q (.int i, 0) μ := by
  simp only [wpS, wsS] at *
  exact U.x_int 
theorem x_str {s : Str} : Wp (evE T b (.str s) ρ μ) Q E ↔ Q (.str s, 0) μ := by
  simp only [wpS, wsS] at *
  exact U.x_str 
theorem x_glob {g : Str} : Wp (evE T b (.glob g) ρ μ) Q E ↔ ∃ d, T.glob g = some d ∧ Q (d, 0) μ := by
  simp only [wpS, wsS] at *
  exact U.x_glob 
theorem x_bin {op : Operator} : Wp (evE T b (.bin op x y) ρ μ) Q E ↔ Wp (evE T b x ρ μ) (fun d μ1 => Wp (evE T b y ρ μ1) (fun e μ2 => Wp (binD op d.1 e.1 μ2) Q E) E) E := by
  simp only [wpS, wsS] at *
  exact U.x_bin 
theorem x_neg : Wp (evE T b (.neg x) ρ μ) Q E ↔ Wp (evE T b x ρ μ) (fun d μ1 => Wp (negD d.1 μ1) Q E) E := by
  simp only [wpS, wsS] at *
  exact U.x_neg 
theorem wp_sh {o : Option D} : Wp (sh o μ) Q E ↔ ∃ d, o = some d ∧ Q (d, 0) μ := by
  simp only [wpS, wsS] at *
  exact U.wp_sh 
theorem wp_shb {o : Option Bool} {f : Bool → Bool} : Wp (sh (o.map fun k => D.bl (f k)) μ) Q E ↔ ∃ k, o = some k ∧ Q (.bl (f k), 0) μ := by
  simp only [wpS, wsS] at *
  exact U.wp_shb 
theorem wp_sh0 {o : Option Bool} : Wp (sh (o.map D.bl) μ) Q E ↔ ∃ k, o = some k ∧ Q (.bl k, 0) μ := by
  simp only [wpS, wsS] at *
  exact U.wp_sh0 
theorem x_not : Wp (evE T b (.not x) ρ μ) Q E ↔ Wp (evE T b x ρ μ) (fun d μ1 => ∃ k, truD μ1 d.1 = some k ∧ Q (.bl !k, 0) μ1) E := by
  simp only [wpS, wsS] at *
  exact U.x_not 
theorem x_and : Wp (evE T b (.and x y) ρ μ) Q E ↔ Wp (evE T b x ρ μ) (fun d μ1 => ∃ k, truD μ1 d.1 = some k ∧ (k = true → Wp (evE T b y ρ μ1) Q E) ∧ (k = false → Q (d.1, 0) μ1)) E := by
  simp only [wpS, wsS] at *
  exact U.x_and 
theorem x_or : Wp (evE T b (.or x y) ρ μ) Q E ↔ Wp (evE T b x ρ μ) (fun d μ1 => ∃ k, truD μ1 d.1 = some k ∧ (k = false → Wp (evE T b y ρ μ1) Q E) ∧ (k = true → Q (d.1, 0) μ1)) E := by
  simp only [wpS, wsS] at *
  exact U.x_or 
theorem x_cmp {op : CmpOp} : Wp (evE T b (.cmp op x y) ρ μ) Q E ↔ Wp (evE T b x ρ μ) (fun d μ1 => Wp (evE T b y ρ μ1) (fun e μ2 => ∃ k, cmpD op d.1 e.1 μ2 = some k ∧ Q (.bl k, 0) μ2) E) E := by
  simp only [wpS, wsS] at *
  exact U.x_cmp 
theorem x_cmp2 {op op2 : CmpOp} : Wp (evE T b (.cmp2 op op2 x y z) ρ μ) Q E ↔ Wp (evE T b x ρ μ) (fun d μ1 => Wp (evE T b y ρ μ1) (fun e μ2 => ∃ k, cmpD op d.1 e.1 μ2 = some k ∧ (k = true → Wp (evE T b z ρ μ2) (fun g μ3 => ∃ k, cmpD op2 e.1 g.1 μ3 = some k ∧ Q (.bl k, 0) μ3) E) ∧ (k = false → Q (.bl false, 0) μ2)) E) E := by
  simp only [wpS, wsS] at *
  exact U.x_cmp2 
theorem x_ife {t : VM.E} : Wp (evE T b (.ife t x y) ρ μ) Q E ↔ Wp (evE T b t ρ μ) (fun d μ1 => ∃ k, truD μ1 d.1 = some k ∧ (k = true → Wp (evE T b x ρ μ1) Q E) ∧ (k = false → Wp (evE T b y ρ μ1) Q E)) E := by
  simp only [wpS, wsS] at *
  exact U.x_ife 
theorem x_lst : Wp (evE T b (.lst es) ρ μ) Q E ↔ Wp (evEs T b es ρ μ) (fun ds μ1 => ds.length ≤ sizeLine ∧ Q (.lst ds, 1) μ1) E := by
  simp only [wpS, wsS] at *
  exact U.x_lst 
theorem x_tup : Wp (evE T b (.tup es) ρ μ) Q E ↔ Wp (evEs T b es ρ μ) (fun ds μ1 => ds.length ≤ sizeLine ∧ Q (.tup ds, 0) μ1) E := by
  simp only [wpS, wsS] at *
  exact U.x_tup 
theorem x_ix : Wp (evE T b (.ix x y) ρ μ) Q E ↔ Wp (evE T b x ρ μ) (fun d μ1 => Wp (evE T b y ρ μ1) (fun e μ2 => ∃ r, ixD d.1 e.1 μ2 = some r ∧ Q (r, 0) μ2) E) E := by
  simp only [wpS, wsS] at *
  exact U.x_ix 
theorem x_call {f : Str} : Wp (evE T b (.call f es) ρ μ) Q E ↔ Wp (evEs T b es ρ μ) (fun ds μ1 => Wp (T.call f b ds μ1) Q E) E := by
  simp only [wpS, wsS] at *
  exact U.x_call 
theorem x_bi {f : Str} : Wp (evE T b (.bi f es) ρ μ) Q E ↔ Wp (evEs T b es ρ μ) (fun ds μ1 => Wp (biD f ds μ1) Q E) E := by
  simp only [wpS, wsS] at *
  exact U.x_bi 
theorem x_thaw : Wp (evE T b (.thaw x) ρ μ) Q E ↔ Wp (evE T b x ρ μ) (fun d μ1 => ∃ xs f, d = (.lst xs, f + 1) ∧ Q (.cell μ1.length, 0) (μ1 ++ [.lst xs])) E := by
  simp only [wpS, wsS] at *
  exact U.x_thaw 
end
theorem ws_nilE {Q : List D → Sto → Prop} : Wp (evEs T b .nil ρ μ) Q E ↔ Q [] μ := by
  simp only [wpS, wsS] at *
  exact U.ws_nilE 
theorem ws_consE {Q : List D → Sto → Prop} {x : VM.E} {es : VM.Es} : Wp (evEs T b (.cons x es) ρ μ) Q E ↔ Wp (evE T b x ρ μ) (fun d μ1 => Wp (evEs T b es ρ μ1) (fun ds μ2 => Q (d.1 :: ds) μ2) E) E := by
  simp only [wpS, wsS] at *
  exact U.ws_consE 
/-! calls -/
theorem wp_run {p s : Nat} {body : Ss} {ds : List D} {Q : D × Nat → Sto → Prop} (h : ds.length = p) : Wp (runFn T ⟨p, s, false, body⟩ b ds μ) Q E ↔
    Ws (runSs T μ.length body (ds.map some ++ List.replicate (s - p) none) μ) (fun _ μ' => Q (.non, 0) (μ'.take μ.length)) (fun d f μ' => ∃ x, frzTop μ.length d f μ' = some x ∧ Q x (μ'.take μ.length)) (fun _ _ => False) (fun _ _ => False) (fun x _ μ' => E x (μ'.take μ.length)) := by
  simp only [wpS, wsS] at *
  exact U.wp_run h
end


section
variable {E : Exc → Sto → Prop} {μ : Sto} {T : Tb} {b : Nat} {ρ : Ev} {Q : D × Nat → Sto → Prop}
theorem y_var {i : Nat} : Wp (evE T b (.var i) ρ μ) Q E ↔ ∃ d, ρ[i]? = some (some d) ∧ Q (d, 0) μ := by
  simp only [wpS, wsS] at *
  exact U.y_var 
theorem and_if {p q : Prop} : ((p → q) ∧ (¬ p → False)) ↔ p ∧ q := U.and_if 
section
variable {i j : Int}
theorem n_add : Wp (binD .Add (.int i) (.int j) μ) Q E ↔ Q (.int (i + j), 0) μ := by
  simp only [wpS, wsS] at *
  exact U.n_add 
theorem n_sub : Wp (binD .Sub (.int i) (.int j) μ) Q E ↔ Q (.int (i - j), 0) μ := by
  simp only [wpS, wsS] at *
  exact U.n_sub 
theorem n_mul : Wp (binD .Mult (.int i) (.int j) μ) Q E ↔ i.natAbs.log2 + j.natAbs.log2 < 130000000 ∧ Q (.int (i * j), 0) μ := by
  simp only [wpS, wsS] at *
  exact U.n_mul 
theorem n_mod : Wp (binD .Mod (.int i) (.int j) μ) Q E ↔ j ≠ 0 ∧ Q (.int (i.fmod j), 0) μ := by
  simp only [wpS, wsS] at *
  exact U.n_mod 
theorem n_fdiv : Wp (binD .FloorDiv (.int i) (.int j) μ) Q E ↔ (j ≠ 0 ∧ j.natAbs.log2 < 9000) ∧ Q (.int (i.fdiv j), 0) μ := by
  simp only [wpS, wsS] at *
  exact U.n_fdiv 
theorem n_pow : Wp (binD .Pow (.int i) (.int j) μ) Q E ↔ (0 ≤ j ∧ j ≤ 1000000 ∧ i.natAbs < 2 ^ 64) ∧ Q (.int (i ^ j.toNat), 0) μ := by
  simp only [wpS, wsS] at *
  exact U.n_pow 
theorem n_neg : Wp (negD (.int i) μ) Q E ↔ Q (.int (-i), 0) μ := by
  simp only [wpS, wsS] at *
  exact U.n_neg 
theorem c_lt : cmpD .Lt (.int i) (.int j) μ = some (decide (i < j)) := U.c_lt 
theorem c_le : cmpD .LtE (.int i) (.int j) μ = some (decide (i ≤ j)) := U.c_le 
theorem c_gt : cmpD .Gt (.int i) (.int j) μ = some (decide (i > j)) := U.c_gt 
theorem c_ge : cmpD .GtE (.int i) (.int j) μ = some (decide (i ≥ j)) := U.c_ge 
theorem shaped_int : SeqAt.shaped (.int i) = true := U.shaped_int 
theorem eqv_int : PyData.eqv (.int i) (.int j) = decide (i = j) := U.eqv_int 
theorem c_eq : cmpD .Eq (.int i) (.int j) μ = some (decide (i = j)) := U.c_eq 
theorem c_ne : cmpD .NotEq (.int i) (.int j) μ = some (decide (i ≠ j)) := U.c_ne 
end
theorem t_bl {k : Bool} : truD μ (.bl k) = some k := U.t_bl 
theorem t_int {i : Int} : truD μ (.int i) = some (i != 0) := U.t_int 
theorem f_int {n f : Nat} {i : Int} : frzTop n (.int i) f μ = some (.int i, f) := U.f_int 
theorem f_bl {n f : Nat} {k : Bool} : frzTop n (.bl k) f μ = some (.bl k, f) := U.f_bl 
theorem f_non {n f : Nat} : frzTop n .non f μ = some (.non, f) := U.f_non 
theorem f_str {n f : Nat} {s : Str} : frzTop n (.str s) f μ = some (.str s, f) := U.f_str 
theorem ix_cell {l : Nat} {xs : List D} {i : Int} (h : μ[l]? = some (.lst xs)) : ixD (.cell l) (.int i) μ = atI xs i := U.ix_cell h
theorem ix_lst {xs : List D} {i : Int} : ixD (.lst xs) (.int i) μ = atI xs i := U.ix_lst 
theorem ix_tup {xs : List D} {i : Int} : ixD (.tup xs) (.int i) μ = atI xs i := U.ix_tup 
theorem ix_scr {ns : List Int} {i : Int} : ixD (.scr ns) (.int i) μ = atI (ns.map .int) i := U.ix_scr 
theorem atN {α : Type} {xs : List α} {i : Int} (h0 : 0 ≤ i) (h1 : i < xs.length) : atI xs i = xs[i.toNat]? := U.atN h0 h1
theorem at0 {α : Type} {x : α} {xs : List α} : atI (x :: xs) 0 = some x := U.at0 
theorem at1 {α : Type} {x y : α} {xs : List α} : atI (x :: y :: xs) 1 = some y := U.at1 
theorem at2 {α : Type} {x y z : α} {xs : List α} : atI (x :: y :: z :: xs) 2 = some z := U.at2 
theorem ixN_ok {n : Nat} {i : Int} (h0 : 0 ≤ i) (h1 : i < n) : ixN n i = some i.toNat := U.ixN_ok h0 h1
theorem set_cell {l j : Nat} {xs : List D} {i : Int} {v : D} (h : μ[l]? = some (.lst xs)) (hj : ixN xs.length i = some j) (hp : mayPut b l v = true) : setD b (.cell l) (.int i) v μ = some (μ.set l (.lst (xs.set j v))) := U.set_cell h hj hp
theorem put_int {l : Nat} {i : Int} : mayPut b l (.int i) = true := U.put_int 
end


section
variable {E : Exc → Sto → Prop} {μ : Sto} {T : Tb} {b : Nat} {ρ : Ev} {N Bk Ct : Ev → Sto → Prop} {Rt : D → Nat → Sto → Prop} {X : Exc → Ev → Sto → Prop}
theorem wp_noErr {α : Type} {r : R α} {Q : α → Sto → Prop} : Wp (noErr r) Q E ↔ Wp r Q NoX := by
  simp only [wpS, wsS] at *
  exact U.wp_noErr 
theorem x_lc {elt c : VM.E} {tg : VM.Tg} {it : VM.It} {own : List Nat} {Q : D × Nat → Sto → Prop} : Wp (evE T b (.lc elt tg it c own) ρ μ) Q E ↔ Wp (evIt T b it ρ μ) (fun src μ1 => Wp (lcLoop (lcF T b elt tg c own ρ) src (src.size μ1 + 1) 0 [] μ1) (fun xs μ2 => Q (.lst xs, 1) μ2) NoX) E := by
  simp only [wpS, wsS] at *
  exact U.x_lc 
theorem lc_name {elt c : VM.E} {i : Nat} {own : List Nat} {x : D} {Q : Option D → Sto → Prop} : Wp (lcF T b elt (.name i) c own ρ x μ) Q E ↔ Wp (evE T b c ((wipeD ρ own).set i (some x)) μ) (fun k μ1 => ∃ t, truD μ1 k.1 = some t ∧ (t = true → Wp (evE T b elt ((wipeD ρ own).set i (some x)) μ1) (fun y μ2 => Q (some y.1) μ2) E) ∧ (t = false → Q none μ1)) E := by
  simp only [wpS, wsS] at *
  exact U.lc_name 
theorem lc_two {elt c : VM.E} {i j : Nat} {own : List Nat} {x y : D} {Q : Option D → Sto → Prop} : Wp (lcF T b elt (.tup (.cons (.name i) (.cons (.name j) .nil))) c own ρ (.tup [x, y]) μ) Q E ↔ Wp (evE T b c (((wipeD ρ own).set i (some x)).set j (some y)) μ) (fun k μ1 => ∃ t, truD μ1 k.1 = some t ∧ (t = true → Wp (evE T b elt (((wipeD ρ own).set i (some x)).set j (some y)) μ1) (fun y μ2 => Q (some y.1) μ2) E) ∧ (t = false → Q none μ1)) E := by
  simp only [wpS, wsS] at *
  exact U.lc_two 
/-- a comprehension's loop, by an invariant; xs what is walked -/
theorem wp_lcLoop {F : D → Sto → R (Option D)} {src : Src} {xs : List D} {Q : List D → Sto → Prop} (I : Nat → List D → Sto → Prop) (hsrc : ∀ i acc μ', I i acc μ' → src.at μ' i = nxO xs[i]?) (hsz : src.size μ = xs.length) (h0 : I 0 [] μ)
    (hs : ∀ i x acc μ', xs[i]? = some x → I i acc μ' → Wp (F x μ') (fun y μ2 => match y with | none => I (i + 1) acc μ2 | some d => acc.length < sizeLine ∧ I (i + 1) (acc ++ [d]) μ2) E) (he : ∀ acc μ', I xs.length acc μ' → Q acc μ') :
    Wp (lcLoop F src (src.size μ + 1) 0 [] μ) Q E := by
  simp only [wpS, wsS] at *
  exact U.wp_lcLoop I hsrc hsz h0 hs he
/-- nothing is written on the way -/
theorem wp_lcPure {F : D → Sto → R (Option D)} {src : Src} {xs : List D} {Q : List D → Sto → Prop} (g : D → Option D) (hsrc : ∀ i, src.at μ i = nxO xs[i]?) (hsz : src.size μ = xs.length) (hlen : xs.length ≤ sizeLine)
    (hs : ∀ x ∈ xs, Wp (F x μ) (fun y μ2 => μ2 = μ ∧ y = g x) E) (he : Q (xs.filterMap g) μ) : Wp (lcLoop F src (src.size μ + 1) 0 [] μ) Q E := by
  simp only [wpS, wsS] at *
  exact U.wp_lcPure g hsrc hsz hlen hs he
theorem src_data {xs : List D} (i : Nat) : (Src.data xs).at μ i = nxO xs[i]? := U.src_data i
theorem src_cell {l : Nat} {xs : List D} (h : μ[l]? = some (.lst xs)) (i : Nat) : (Src.cell l).at μ i = nxO xs[i]? := U.src_cell h i
theorem size_cell {l : Nat} {xs : List D} (h : μ[l]? = some (.lst xs)) : (Src.cell l).size μ = xs.length := U.size_cell h
theorem src_zip {a c : Src} {xs ys : List D} {i : Nat} (h1 : a.at μ i = nxO xs[i]?) (h2 : c.at μ i = nxO ys[i]?) : (Src.zip a c).at μ i = nxO (xs.zipWith (fun x y => D.tup [x, y]) ys)[i]? := U.src_zip h1 h2
/-- a for loop over what is walked, by an invariant -/
theorem ws_for {i : Nat} {it : VM.It} {body : Ss} (h : Wp (evIt T b it ρ μ) (fun src μ1 => ∃ (xs : List D) (I : Nat → Ev → Sto → Prop), (∀ k ρ' μ', I k ρ' μ' → src.at μ' k = nxO xs[k]?) ∧ src.size μ1 = xs.length ∧ I 0 ρ μ1 ∧
      (∀ k x ρ' μ', xs[k]? = some x → I k ρ' μ' → Ws (runSs T b body (ρ'.set i (some x)) μ') (I (k + 1)) Rt N (I (k + 1)) X) ∧ ∀ ρ' μ', I xs.length ρ' μ' → N ρ' μ') (fun x μ => X x ρ μ)) :
    Ws (runS T b (.for_ (.name i) it body) ρ μ) N Rt Bk Ct X := by
  simp only [wpS, wsS] at *
  exact U.ws_for h
/-! what is walked -/
section
variable {Q : Src → Sto → Prop} {x y : VM.E}
theorem i_exD : Wp (evIt T b (.ex x) ρ μ) Q E ↔ Wp (evE T b x ρ μ) (fun d μ1 => ∃ s, srcIt μ1 d.1 = some s ∧ Q s μ1) E := by
  simp only [wpS, wsS] at *
  exact U.i_exD 
theorem i_r1 : Wp (evIt T b (.rng1 x) ρ μ) Q E ↔ Wp (evE T b x ρ μ) (fun d μ1 => ∃ j, d.1 = .int j ∧ smallI j = true ∧ Q (.data (rangeD 0 j.toNat)) μ1) E := by
  simp only [wpS, wsS] at *
  exact U.i_r1 
theorem i_r2 : Wp (evIt T b (.rng2 x y) ρ μ) Q E ↔ Wp (evE T b x ρ μ) (fun d μ1 => Wp (evE T b y ρ μ1) (fun e μ2 => ∃ i, d.1 = .int i ∧ ∃ j, e.1 = .int j ∧ (smallI i && smallI j) = true ∧ Q (.data (rangeD i (j - i).toNat)) μ2) E) E := by
  simp only [wpS, wsS] at *
  exact U.i_r2 
theorem i_zp : Wp (evIt T b (.zip x y) ρ μ) Q E ↔ Wp (evE T b x ρ μ) (fun d μ1 => Wp (evE T b y ρ μ1) (fun e μ2 => ∃ i, srcL μ2 d.1 = some i ∧ ∃ j, srcL μ2 e.1 = some j ∧ Q (.zip i j) μ2) E) E := by
  simp only [wpS, wsS] at *
  exact U.i_zp 
end
end

end VM

set_option Elab.async false
set_option maxRecDepth 100000
set_option autoImplicit false
set_option linter.unusedVariables false
set_option linter.unusedSimpArgs false
/-! what the laws draw with: deck, pick, number, rows -/
namespace VM
open PySem L2
def s__law_deck_0 : VM.S := (.ife (.cmp .GtE (.var 0) (.bin .Pow (.int 10) (.int 18))) (.cons (.ret (.lst (.cons (.bin .Sub (.var 0) (.bin .Pow (.int 10) (.int 18))) (.cons (.bin .Mod (.var 0) (.int 2147483579)) (.cons (.var 1) .nil)))))
  .nil) .nil)
def s__law_deck_1 : VM.S := (.ret (.lst (.cons (.int 0) (.cons (.bin .Mod (.var 0) (.int 2147483579)) (.cons (.var 1) .nil)))))
def b__law_deck : Ss := (.cons s__law_deck_0 (.cons s__law_deck_1 .nil))
def f__law_deck : Fn := ⟨2, 2, false, b__law_deck⟩
def s__law_pick_0 : VM.S := (.ife (.cmp .Gt (.ix (.var 0) (.int 0)) (.int 1)) (.cons (.set (.name 2) (.bin .Mod (.ix (.var 0) (.int 0)) (.var 1)))
  (.cons (.set (.sub (.var 0) (.int 0)) (.bin .FloorDiv (.ix (.var 0) (.int 0)) (.var 1)))
  (.cons (.ret (.var 2))
  .nil))) .nil)
def s__law_pick_1 : VM.S := (.set (.sub (.var 0) (.int 2)) (.bin .Add (.ix (.var 0) (.int 2)) (.int 1)))
def s__law_pick_2 : VM.S := (.set (.name 3) (.bin .Mod (.bin .Pow (.bin .Add (.ix (.var 0) (.int 1)) (.bin .Mult (.int 15485867) (.ix (.var 0) (.int 2)))) (.int 5)) (.int 2147483647)))
def s__law_pick_3 : VM.S := (.set (.name 2) (.bin .FloorDiv (.bin .Mod (.bin .Pow (.bin .Add (.var 3) (.bin .Mult (.int 7919) (.ix (.var 0) (.int 2)))) (.int 3)) (.int 2147483629)) (.int 32)))
def s__law_pick_4 : VM.S := (.ife (.cmp .Gt (.var 1) (.int 1000000)) (.cons (.ret (.bin .Mod (.bin .Add (.bin .Mult (.var 2) (.int 2147483563)) (.var 3)) (.var 1)))
  .nil) .nil)
def s__law_pick_5 : VM.S := (.ret (.bin .Mod (.var 2) (.var 1)))
def b__law_pick : Ss := (.cons s__law_pick_0 (.cons s__law_pick_1 (.cons s__law_pick_2 (.cons s__law_pick_3 (.cons s__law_pick_4 (.cons s__law_pick_5 .nil))))))
def f__law_pick : Fn := ⟨2, 4, false, b__law_pick⟩
def s__law_number_0 : VM.S := (.set (.name 2) (.ix (.lst (.cons (.int 3) (.cons (.bin .Pow (.int 10) (.int 9)) (.cons (.int 40) .nil)))) (.var 1)))
def s__law_number_1 : VM.S := (.ret (.bin .Sub (.call "_law_pick" (.cons (.var 0) (.cons (.bin .Add (.bin .Mult (.int 2) (.var 2)) (.int 1)) .nil))) (.var 2)))
def b__law_number : Ss := (.cons s__law_number_0 (.cons s__law_number_1 .nil))
def f__law_number : Fn := ⟨2, 3, false, b__law_number⟩
def s__law_rows_0 : VM.S := (.set (.name 3) (.call "_law_pick" (.cons (.var 0) (.cons (.int 6) .nil))))
def s__law_rows_1 : VM.S := (.set (.name 4) (.ix (.lst (.cons (.int 0) (.cons (.int 0) (.cons (.int 1) (.cons (.int 2) .nil))))) (.call "_law_pick" (.cons (.var 0) (.cons (.int 4) .nil)))))
def s__law_rows_2 : VM.S := (.ife (.cmp .Lt (.var 3) (.int 2)) (.cons (.ret (.lc (.lc (.call "_law_number" (.cons (.var 0) (.cons (.var 4) .nil))) (.name 6) (.rng1 (.var 2)) (.bl true) [6]) (.name 5) (.rng1 (.var 1)) (.bl true) [5]))
  .nil) .nil)
def s__law_rows_3 : VM.S := (.set (.name 7) (.thaw (.lc (.thaw (.lc (.bi "int" (.cons (.cmp .Eq (.var 6) (.var 5)) .nil)) (.name 6) (.rng1 (.var 2)) (.bl true) [6])) (.name 5) (.rng1 (.var 1)) (.bl true) [5])))
def s__law_rows_4 : VM.S := (.for_ (.name 8) (.rng1 (.bin .Add (.int 2) (.call "_law_pick" (.cons (.var 0) (.cons (.int 6) .nil))))) (.cons (.set (.name 5) (.call "_law_pick" (.cons (.var 0) (.cons (.var 2) .nil))))
  (.cons (.set (.name 6) (.call "_law_pick" (.cons (.var 0) (.cons (.var 2) .nil))))
  (.cons (.set (.name 9) (.call "_law_number" (.cons (.var 0) (.cons (.ix (.lst (.cons (.int 0) (.cons (.int 0) (.cons (.int 2) .nil)))) (.call "_law_pick" (.cons (.var 0) (.cons (.int 3) .nil)))) .nil))))
  (.cons (.for_ (.name 10) (.ex (.var 7)) (.cons (.set (.sub (.var 10) (.var 6)) (.bin .Add (.ix (.var 10) (.var 6)) (.bin .Mult (.bin .Mult (.var 9) (.ix (.var 10) (.var 5))) (.bi "int" (.cons (.cmp .NotEq (.var 5) (.var 6)) .nil)))))
  .nil))
  .nil)))))
def s__law_rows_5 : VM.S := (.set (.name 11) (.call "_law_pick" (.cons (.var 0) (.cons (.var 1) .nil))))
def s__law_rows_6 : VM.S := (.ife (.cmp .Eq (.var 3) (.int 4)) (.cons (.set (.name 9) (.bin .Add (.bin .Mult (.call "_law_number" (.cons (.var 0) (.cons (.int 0) .nil))) (.int 2)) (.call "_law_pick" (.cons (.var 0) (.cons (.int 2) .nil)))))
  (.cons (.set (.sub (.var 7) (.var 11)) (.lc (.bin .Mult (.var 9) (.var 13)) (.name 13) (.ex (.ix (.var 7) (.var 11))) (.bl true) [13]))
  .nil)) .nil)
def s__law_rows_7 : VM.S := (.for_ (.name 8) (.rng1 (.call "_law_pick" (.cons (.var 0) (.cons (.bin .Mult (.int 2) (.var 1)) .nil)))) (.cons (.set (.name 5) (.call "_law_pick" (.cons (.var 0) (.cons (.var 1) .nil))))
  (.cons (.set (.name 6) (.call "_law_pick" (.cons (.var 0) (.cons (.var 1) .nil))))
  (.cons (.set (.name 9) (.call "_law_number" (.cons (.var 0) (.cons (.int 0) .nil))))
  (.cons (.ife (.cmp .NotEq (.var 5) (.var 6)) (.cons (.set (.sub (.var 7) (.var 5)) (.lc (.bin .Add (.var 13) (.bin .Mult (.var 9) (.var 12))) (.tup (.cons (.name 13) (.cons (.name 12) .nil))) (.zip (.ix (.var 7) (.var 5)) (.ix (.var 7) (.var 6))) (.bl true) [13, 12]))
  .nil) .nil)
  .nil)))))
def s__law_rows_8 : VM.S := (.ife (.and (.cmp .Eq (.var 3) (.int 5)) (.cmp .Gt (.var 1) (.int 1))) (.cons (.set (.name 12) (.ix (.var 7) (.bin .Sub (.var 11) (.int 1))))
  (.cons (.set (.name 9) (.call "_law_number" (.cons (.var 0) (.cons (.int 0) .nil))))
  (.cons (.set (.sub (.var 7) (.var 11)) (.lc (.bin .Mult (.var 9) (.var 13)) (.name 13) (.ex (.var 12)) (.bl true) [13]))
  .nil))) .nil)
def s__law_rows_9 : VM.S := (.ret (.var 7))
def b__law_rows : Ss := (.cons s__law_rows_0 (.cons s__law_rows_1 (.cons s__law_rows_2 (.cons s__law_rows_3 (.cons s__law_rows_4 (.cons s__law_rows_5 (.cons s__law_rows_6 (.cons s__law_rows_7 (.cons s__law_rows_8 (.cons s__law_rows_9 .nil))))))))))
def f__law_rows : Fn := ⟨3, 14, false, b__law_rows⟩
/-- a deck -/
def Dk (μ : Sto) (l n : Nat) : Prop := ∃ a b c : Int, μ[l]? = some (.lst [.int a, .int b, .int c]) ∧ 0 ≤ b ∧ b < 2147483579 ∧ 0 ≤ c ∧ c ≤ n
structure Fr (μ μ' : Sto) (l : Nat) : Prop where
  len : μ'.length = μ.length
  at_ : ∀ k, k ≠ l → μ'[k]? = μ[k]?
theorem fm0 (a : Int) {m : Int} (h : 0 < m) : 0 ≤ a.fmod m := by rw [Int.fmod_eq_emod_of_nonneg _ (by omega)]; exact Int.emod_nonneg _ (by omega)
theorem fm1 (a : Int) {m : Int} (h : 0 < m) : a.fmod m < m := by rw [Int.fmod_eq_emod_of_nonneg _ (by omega)]; exact Int.emod_lt_of_pos _ h
theorem lg {n p : Nat} (h : n < 2 ^ p) : n.log2 ≤ p := by
  by_cases h0 : n = 0
  · subst h0; simp
  · exact Nat.le_of_lt ((Nat.log2_lt h0).mpr h)
theorem lgm {i j : Int} {p q : Nat} (h1 : i.natAbs < 2 ^ p) (h2 : j.natAbs < 2 ^ q) (h : p + q < 130000000) : i.natAbs.log2 + j.natAbs.log2 < 130000000 := by
  have := lg h1
  have := lg h2
  omega
theorem lg9 {i : Int} (h : i.natAbs < 2 ^ 200) : i.natAbs.log2 < 9000 := Nat.lt_of_le_of_lt (lg h) (by decide)
variable {E : Exc → Sto → Prop}
variable {P : Pg}
theorem wp_call {n : Nat} {f : Str} {fn : Fn} (h : P.fns f = some fn) {b : Nat} {ds : List D} {μ : Sto} {Q : D × Nat → Sto → Prop} : Wp ((tb P (n + 1)).call f b ds μ) Q E ↔ Wp (runFn (tb P n) fn b ds μ) Q E := by
  show Wp (match P.fns f with | some fn => runFn (tb P n) fn b ds μ | none => .bad) Q E ↔ _
  rw [h]
theorem pick (hp : P.fns "_law_pick" = some f__law_pick) {n : Nat} {b l N : Nat} {m : Int} {μ : Sto} {Q : D × Nat → Sto → Prop} (hd : Dk μ l N) (hN : N ≤ 1000000) (hm : 0 < m) (hm2 : m < 2 ^ 200)
    (k : ∀ r μ', 0 ≤ r → r < m → Dk μ' l (N + 1) → Fr μ μ' l → Q (.int r, 0) μ') : Wp ((tb P (n + 1)).call "_law_pick" b [.cell l, .int m] μ) Q E := by
  obtain ⟨a, bb, c, h, hb0, hb1, hc0, hc1⟩ := hd
  refine (wp_call hp).mpr ((wp_run (by rfl)).mpr ?_)
  unfold b__law_pick s__law_pick_0 s__law_pick_1 s__law_pick_2 s__law_pick_3 s__law_pick_4 s__law_pick_5
  have hl : l < μ.length := (List.getElem?_eq_some_iff.mp h).1
  have put : ∀ (j : Nat) (xs : List D) (ν : Sto) (i : Int) (v : Int), ν[l]? = some (.lst xs) → ixN xs.length i = some j → setD μ.length (.cell l) (.int i) (.int v) ν = some (ν.set l (.lst (xs.set j (.int v)))) := fun j xs ν i v h1 h2 => set_cell h1 h2 put_int
  have fr : ∀ c : C, Fr μ (μ.set l c) l := fun c => ⟨List.length_set, fun k hk => List.getElem?_set_ne (Ne.symm hk)⟩
  have at_ : ∀ c : C, (μ.set l c)[l]? = some c := fun c => List.getElem?_set_self hl
  have tk : ∀ c : C, (μ.set l c).take μ.length = μ.set l c := fun c => by rw [List.take_of_length_le (by rw [List.length_set]; exact Nat.le_refl _)]
  have f_int : ∀ {n f : Nat} {i : Int} {ν : Sto}, frzTop n (.int i) f ν = some (.int i, f) := rfl
  simp only [ws_cons, ws_nil, ws_ife, ws_set, ws_sub, ws_ret_, x_cmp, x_ix, x_int, x_bin, y_var, List.map_cons, List.map_nil, List.replicate, List.cons_append, List.nil_append, List.getElem?_cons_zero, List.getElem?_cons_succ, Option.some.injEq, exists_eq_left', List.set_cons_zero, List.set_cons_succ, ix_cell h, at0, at1, at2, c_gt, t_bl, n_add, n_sub, n_mul, n_mod, n_fdiv, n_pow, decide_eq_true_eq, decide_eq_false_iff_not]
  refine ⟨fun ha => ?_, fun ha => ?_⟩
  · refine ⟨by omega, ⟨by omega, lg9 (by omega)⟩, _, put 0 _ _ _ _ h rfl, ?_⟩
    rw [tk]
    exact ⟨_, f_int, k _ _ (fm0 _ hm) (fm1 _ hm) ⟨_, bb, c, at_ _, hb0, hb1, hc0, by omega⟩ (fr _)⟩
  · refine ⟨_, put 2 _ _ _ _ h rfl, ?_⟩
    simp only [ix_cell (at_ _), List.set_cons_zero, List.set_cons_succ, at0, at1, at2, Option.some.injEq, exists_eq_left', n_mul, n_pow, n_add, n_mod, n_fdiv, tk, f_int]
    have hc : (c + 1).natAbs < 2 ^ 20 := by omega
    have m1 := fm0 ((bb + 15485867 * (c + 1)) ^ Int.toNat 5) (m := 2147483647) (by decide)
    have m2 := fm1 ((bb + 15485867 * (c + 1)) ^ Int.toNat 5) (m := 2147483647) (by decide)
    generalize ((bb + 15485867 * (c + 1)) ^ Int.toNat 5).fmod 2147483647 = w at m1 m2 ⊢
    have m3 := fm0 ((w + 7919 * (c + 1)) ^ Int.toNat 3) (m := 2147483629) (by decide)
    have m4 := fm1 ((w + 7919 * (c + 1)) ^ Int.toNat 3) (m := 2147483629) (by decide)
    generalize ((w + 7919 * (c + 1)) ^ Int.toNat 3).fmod 2147483629 = z at m3 m4 ⊢
    have m5 : (z.fdiv 32).natAbs < 2 ^ 40 := by
      rw [Int.fdiv_eq_ediv_of_nonneg _ (by decide)]; omega
    have dk : Dk (μ.set l (.lst [.int a, .int bb, .int (c + 1)])) l (N + 1) := ⟨_, bb, _, at_ _, hb0, hb1, by omega, by omega⟩
    refine ⟨lgm (p := 24) (by decide) hc (by decide), ⟨by decide, by decide, by omega⟩, by decide, lgm (p := 24) (by decide) hc (by decide), ⟨by decide, by decide, by omega⟩, by decide, ⟨by decide, by decide⟩, fun _ => ⟨lgm (q := 40) m5 (by decide) (by decide), by omega, ?_⟩, fun _ => ⟨by omega, ?_⟩⟩
    · exact k _ _ (fm0 _ hm) (fm1 _ hm) dk (fr _)
    · exact k _ _ (fm0 _ hm) (fm1 _ hm) dk (fr _)
end VM

set_option Elab.async false
set_option maxRecDepth 100000
set_option autoImplicit false
set_option linter.unusedVariables false
set_option linter.unusedSimpArgs false
namespace VM
open PySem L2
/-! what stays data -/
theorem mapM_of {α β : Type} {f : α → Option β} {g : α → β} : ∀ {xs : List α}, (∀ x ∈ xs, f x = some (g x)) → xs.mapM f = some (xs.map g)
  | [], _ => by simp
  | x :: xs, h => by
    rw [List.mapM_cons, h x List.mem_cons_self, mapM_of fun y hy => h y (List.mem_cons_of_mem _ hy)]; rfl
theorem frz_intL {n k : Nat} {μ : Sto} (r : List Int) : frz n μ (k + 2) (.lst (r.map .int)) = some (.lst (r.map .int)) := by
  show ((r.map D.int).mapM (frz n μ (k + 1))).map D.lst = _
  rw [mapM_of (g := id) (fun x hx => by obtain ⟨i, _, rfl⟩ := List.mem_map.mp hx; rfl), List.map_id]; rfl
abbrev rowD (r : List Int) : D := .lst (r.map .int)
abbrev rowsD (rs : List (List Int)) : D := .lst (rs.map rowD)
theorem frz_rows {n k : Nat} {μ : Sto} (rs : List (List Int)) : frz n μ (k + 3) (rowsD rs) = some (rowsD rs) := by
  show ((rs.map rowD).mapM (frz n μ (k + 2))).map D.lst = _
  rw [mapM_of (g := id) (fun x hx => by obtain ⟨r, _, rfl⟩ := List.mem_map.mp hx; exact frz_intL r), List.map_id]; rfl
theorem f_row {n f : Nat} {μ : Sto} {r : List Int} : frzTop n (rowD r) f μ = some (rowD r, f) := by
  show (frz n μ 9 (rowD r)).map _ = _
  rw [frz_intL (k := 7)]; rfl
theorem f_rows {n f : Nat} {μ : Sto} {r : List (List Int)} : frzTop n (rowsD r) f μ = some (rowsD r, f) := by
  show (frz n μ 9 (rowsD r)).map _ = _
  rw [frz_rows (k := 6)]; rfl
theorem Fr.refl (μ : Sto) (l : Nat) : Fr μ μ l := ⟨rfl, fun _ _ => rfl⟩
theorem Fr.trans {μ ν ξ : Sto} {l : Nat} (a : Fr μ ν l) (b : Fr ν ξ l) : Fr μ ξ l := ⟨b.len.trans a.len, fun k hk => (b.at_ k hk).trans (a.at_ k hk)⟩
theorem Dk.mono {μ : Sto} {l n m : Nat} (h : Dk μ l n) (k : n ≤ m) : Dk μ l m := by
  obtain ⟨a, b, c, h1, h2, h3, h4, h5⟩ := h
  exact ⟨a, b, c, h1, h2, h3, h4, by omega⟩
theorem Dk.lt {μ : Sto} {l n : Nat} (h : Dk μ l n) : l < μ.length := by
  obtain ⟨a, b, c, h1, _⟩ := h
  exact (List.getElem?_eq_some_iff.mp h1).1
variable {E : Exc → Sto → Prop} {P : Pg} {n b l N : Nat} {μ : Sto} {Q : D × Nat → Sto → Prop}
theorem deck (hp : P.fns "_law_deck" = some f__law_deck) {cell turn : Int} (k : ∀ a c : Int, 0 ≤ c → c < 2147483579 → Q (.lst [.int a, .int c, .int turn], 1) μ) : Wp ((tb P (n + 1)).call "_law_deck" b [.int cell, .int turn] μ) Q E := by
  refine (wp_call hp).mpr ((wp_run (by rfl)).mpr ?_)
  unfold b__law_deck s__law_deck_0 s__law_deck_1
  have fd : ∀ a c : Int, frzTop μ.length (.lst [.int a, .int c, .int turn]) 1 μ = some (.lst [.int a, .int c, .int turn], 1) := fun a c => f_row (r := [a, c, turn])
  simp only [List.map_cons, List.map_nil, List.replicate, List.cons_append, List.nil_append, ws_cons, ws_nil, ws_ife, ws_set, ws_sub, ws_ret_, ws_expr, ws_pass, ws_retn, ws_brk, ws_cnt, x_cmp, x_cmp2, x_ix, x_int, x_bl, x_str, x_non, x_npart, x_bin, x_neg, x_not, x_and, x_or, x_ife, x_lst, x_tup, x_call, x_bi, x_thaw, x_glob, ws_nilE, ws_consE, y_var, List.getElem?_cons_zero, List.getElem?_cons_succ, Option.some.injEq, exists_eq_left', List.set_cons_zero, List.set_cons_succ, c_gt, c_lt, c_le, c_ge, c_eq, c_ne, t_bl, t_int, n_add, n_sub, n_mul, n_mod, n_fdiv, n_pow, n_neg, ix_lst, ix_tup, decide_eq_true_eq, decide_eq_false_iff_not, fd, List.take_length, List.length_cons, List.length_nil]
  refine ⟨⟨by decide, by decide, by decide⟩, fun _ => ⟨⟨by decide, by decide, by decide⟩, by decide, by decide, k _ _ (fm0 _ (by decide)) (fm1 _ (by decide))⟩, fun _ => ⟨by decide, by decide, k _ _ (fm0 _ (by decide)) (fm1 _ (by decide))⟩⟩
/-- a drawn number: within 10^9, or (ways 0 and 2) within 40; with way 0 within 3 -/
theorem number (hp : P.fns "_law_pick" = some f__law_pick) (hn : P.fns "_law_number" = some f__law_number) {way : Int} (hw : way = 0 ∨ way = 1 ∨ way = 2) (hd : Dk μ l N) (hN : N ≤ 1000000)
    (k : ∀ r μ', r.natAbs ≤ 1000000000 → (way ≠ 1 → r.natAbs ≤ 40) → (way = 0 → r.natAbs ≤ 3) → Dk μ' l (N + 1) → Fr μ μ' l → Q (.int r, 0) μ') : Wp ((tb P (n + 2)).call "_law_number" b [.cell l, .int way] μ) Q E := by
  refine (wp_call hn).mpr ((wp_run (by rfl)).mpr ?_)
  have main : ∀ far : Int, atI [D.int 3, D.int (10 ^ Int.toNat 9), D.int 40] way = some (.int far) → 0 < far → far ≤ 1000000000 → (way ≠ 1 → far ≤ 40) → (way = 0 → far ≤ 3) → Ws (runSs (tb P (n + 1)) μ.length b__law_number (List.map some [D.cell l, D.int way] ++ List.replicate (3 - 2) none) μ)
      (fun _ μ' => Q (.non, 0) (μ'.take μ.length)) (fun d f μ' => ∃ x, frzTop μ.length d f μ' = some x ∧ Q x (μ'.take μ.length)) (fun _ _ => False) (fun _ _ => False) (fun x _ μ' => E x (μ'.take μ.length)) := by
    intro far hfar h0 h1 h2 h3
    unfold b__law_number s__law_number_0 s__law_number_1
    simp only [List.map_cons, List.map_nil, List.replicate, List.cons_append, List.nil_append, ws_cons, ws_nil, ws_ife, ws_set, ws_sub, ws_ret_, ws_expr, ws_pass, ws_retn, ws_brk, ws_cnt, x_cmp, x_cmp2, x_ix, x_int, x_bl, x_str, x_non, x_npart, x_bin, x_neg, x_not, x_and, x_or, x_ife, x_lst, x_tup, x_call, x_bi, x_thaw, x_glob, ws_nilE, ws_consE, y_var, List.getElem?_cons_zero, List.getElem?_cons_succ, Option.some.injEq, exists_eq_left', List.set_cons_zero, List.set_cons_succ, c_gt, c_lt, c_le, c_ge, c_eq, c_ne, t_bl, t_int, n_add, n_sub, n_mul, n_mod, n_fdiv, n_pow, n_neg, ix_lst, ix_tup, decide_eq_true_eq, decide_eq_false_iff_not, List.length_cons, List.length_nil, hfar]
    refine ⟨⟨by decide, by decide, by decide⟩, by decide, lgm (p := 2) (q := 31) (by decide) (by omega) (by decide), ?_⟩
    refine pick hp hd hN (by omega) (by omega) fun r μ' r0 r1 dk fr => ?_
    have tk : μ'.take μ.length = μ' := by rw [← fr.len, List.take_length]
    simp only [ws_ife, ws_set, ws_sub, ws_ret_, ws_expr, ws_pass, ws_retn, ws_brk, ws_cnt, x_cmp, x_cmp2, x_ix, x_int, x_bl, x_str, x_non, x_npart, x_bin, x_neg, x_not, x_and, x_or, x_ife, x_lst, x_tup, x_call, x_bi, x_thaw, x_glob, ws_nilE, ws_consE, y_var, List.getElem?_cons_zero, List.getElem?_cons_succ, Option.some.injEq, exists_eq_left', List.set_cons_zero, List.set_cons_succ, c_gt, c_lt, c_le, c_ge, c_eq, c_ne, t_bl, t_int, n_add, n_sub, n_mul, n_mod, n_fdiv, n_pow, n_neg, ix_lst, ix_tup, decide_eq_true_eq, decide_eq_false_iff_not]
    rw [tk]
    exact ⟨_, rfl, k _ _ (by omega) (fun z => by have := h2 z; omega) (fun z => by have := h3 z; omega) dk fr⟩
  rcases hw with rfl | rfl | rfl
  · exact main 3 at0 (by decide) (by decide) (fun _ => by decide) (fun _ => by decide)
  · exact main (10 ^ Int.toNat 9) at1 (by decide) (by decide) (fun z => absurd rfl z) (fun z => by cases z)
  · exact main 40 at2 (by decide) (by decide) (fun _ => by decide) (fun z => by cases z)
end VM

set_option Elab.async false
set_option maxRecDepth 100000
set_option autoImplicit false
set_option linter.unusedVariables false
set_option linter.unusedSimpArgs false
/-! rows drawn -/
namespace VM
open PySem L2
def Ints (B j : Nat) (acc : List D) : Prop := ∃ r : List Int, acc = r.map .int ∧ r.length = j ∧ ∀ x ∈ r, x.natAbs < 2 ^ B
theorem Ints.nil {B : Nat} : Ints B 0 [] := ⟨[], rfl, rfl, fun _ h => by cases h⟩
theorem Ints.snoc {B j : Nat} {acc : List D} {x : Int} (h : Ints B j acc) (hx : x.natAbs < 2 ^ B) : Ints B (j + 1) (acc ++ [.int x]) := by
  obtain ⟨r, rfl, rfl, h⟩ := h
  refine ⟨r ++ [x], by simp, by simp, fun y hy => ?_⟩
  rcases List.mem_append.mp hy with hy | hy
  · exact h y hy
  · rw [List.mem_singleton.mp hy]; exact hx
theorem Ints.len {B j : Nat} {acc : List D} (h : Ints B j acc) : acc.length = j := by
  obtain ⟨r, rfl, rfl, h⟩ := h; simp
theorem Ints.get {B j k : Nat} {acc : List D} (h : Ints B j acc) (hk : k < j) : ∃ x : Int, acc[k]? = some (.int x) ∧ x.natAbs < 2 ^ B := by
  obtain ⟨r, rfl, rfl, h⟩ := h
  exact ⟨r[k], by rw [List.getElem?_map, List.getElem?_eq_getElem hk]; rfl, h _ (List.getElem_mem hk)⟩
theorem Ints.mem {B j : Nat} {acc : List D} {d : D} (h : Ints B j acc) (hk : d ∈ acc) : ∃ x : Int, d = .int x ∧ x.natAbs < 2 ^ B := by
  obtain ⟨r, rfl, rfl, h⟩ := h
  obtain ⟨x, hx, rfl⟩ := List.mem_map.mp hk
  exact ⟨x, rfl, h x hx⟩
theorem Ints.mono {B C j : Nat} {acc : List D} (h : Ints B j acc) (k : B ≤ C) : Ints C j acc := by
  obtain ⟨r, rfl, rfl, h⟩ := h
  exact ⟨r, rfl, rfl, fun x hx => Nat.lt_of_lt_of_le (h x hx) (Nat.pow_le_pow_right (by decide) k)⟩
theorem Ints.set {B j k : Nat} {acc : List D} {x : Int} (h : Ints B j acc) (hx : x.natAbs < 2 ^ B) : Ints B j (acc.set k (.int x)) := by
  obtain ⟨r, rfl, rfl, h⟩ := h
  refine ⟨r.set k x, by rw [List.map_set], by simp, fun y hy => ?_⟩
  rcases List.mem_or_eq_of_mem_set hy with hy | rfl
  · exact h y hy
  · exact hx
def Row (B long : Nat) (d : D) : Prop := ∃ xs, d = .lst xs ∧ Ints B long xs
theorem Row.mono {B C long : Nat} {d : D} (h : Row B long d) (k : B ≤ C) : Row C long d := by
  obtain ⟨xs, rfl, h⟩ := h; exact ⟨xs, rfl, h.mono k⟩
/-- what rows are -/
def RowsR (B many long : Nat) (d : D) : Prop := ∃ rs : List (List Int), d = rowsD rs ∧ rs.length = many ∧ ∀ r ∈ rs, r.length = long ∧ ∀ x ∈ r, x.natAbs < 2 ^ B
theorem rows_of {B long : Nat} : ∀ {ds : List D}, (∀ d ∈ ds, Row B long d) → RowsR B ds.length long (.lst ds)
  | [], _ => ⟨[], rfl, rfl, fun _ h => by cases h⟩
  | d :: ds, h => by
    obtain ⟨rs, e, hl, hr⟩ := rows_of fun x hx => h x (List.mem_cons_of_mem _ hx)
    obtain ⟨xs, rfl, r, rfl, h2, h3⟩ := h d List.mem_cons_self
    cases e
    refine ⟨r :: rs, rfl, by simp, fun q hq => ?_⟩
    rcases List.mem_cons.mp hq with rfl | hq
    · exact ⟨h2, h3⟩
    · exact hr q hq
theorem range_at {lo : Int} {n i : Nat} {x : D} (h : (rangeD lo n)[i]? = some x) : i < n ∧ x = .int (lo + (i : Nat)) := by
  unfold rangeD at h
  rw [List.getElem?_map] at h
  obtain ⟨j, hj, rfl⟩ := map_some h
  obtain ⟨hi, e⟩ := List.getElem?_eq_some_iff.mp hj
  rw [List.length_range] at hi
  rw [List.getElem_range] at e
  subst e
  exact ⟨hi, rfl⟩
theorem range_len {lo : Int} {n : Nat} : (rangeD lo n).length = n := by unfold rangeD; simp
theorem small_of {i : Int} (h : -1000000000 ≤ i) (h2 : i ≤ 1000000000) : smallI i = true := by
  unfold smallI
  simp only [Bool.and_eq_true, decide_eq_true_eq]; omega
theorem mulB {i j : Int} {p q : Nat} (h1 : i.natAbs < 2 ^ p) (h2 : j.natAbs < 2 ^ q) : (i * j).natAbs < 2 ^ (p + q) := by
  rw [Int.natAbs_mul, Nat.pow_add]
  exact Nat.mul_lt_mul_of_lt_of_le h1 (Nat.le_of_lt h2) (Nat.pow_pos (by decide))
theorem addB {i j : Int} {p : Nat} (h1 : i.natAbs < 2 ^ p) (h2 : j.natAbs < 2 ^ p) : (i + j).natAbs < 2 ^ (p + 1) := by
  have := Int.natAbs_add_le i j
  rw [Nat.pow_succ]; omega
theorem powM {x p q : Nat} (h : x < 2 ^ p) (k : p ≤ q) : x < 2 ^ q := Nat.lt_of_lt_of_le h (Nat.pow_le_pow_right (by decide) k)
variable {E : Exc → Sto → Prop} {P : Pg} {n b l N : Nat} {μ : Sto} {Q : D × Nat → Sto → Prop}
structure Dr (P : Pg) : Prop where
  pick : P.fns "_law_pick" = some f__law_pick
  number : P.fns "_law_number" = some f__law_number
  rows : P.fns "_law_rows" = some f__law_rows
/-- cells from n0: the rows; then the list of them -/
structure St1 (μ0 μ : Sto) (l N many long : Nat) (Bf : Nat → Nat) : Prop where
  len : μ.length = μ0.length + many + 1
  fr : ∀ k, k < μ0.length → k ≠ l → μ[k]? = μ0[k]?
  dk : Dk μ l N
  rws : μ[μ0.length + many]? = some (.lst ((List.range many).map fun k => .cell (μ0.length + k)))
  row : ∀ k, k < many → ∃ xs, μ[μ0.length + k]? = some (.lst xs) ∧ Ints (Bf k) long xs
structure St2 (μ0 μ : Sto) (l N many long B : Nat) : Prop where
  len : μ.length = μ0.length + many + 1
  fr : ∀ k, k < μ0.length → k ≠ l → μ[k]? = μ0[k]?
  dk : Dk μ l N
  rws : ∃ ds, μ[μ0.length + many]? = some (.lst ds) ∧ ds.length = many ∧ ∀ d ∈ ds, ∃ xs, itemsL μ d = some xs ∧ Ints B long xs ∧ (d = .lst xs ∨ ∃ c, d = .cell c ∧ μ0.length ≤ c ∧ c < μ0.length + many)
section
variable {μ0 : Sto} {many long B : Nat}
theorem St1.step {Bf : Nat → Nat} {μ' : Sto} (h : St1 μ0 μ l N many long Bf) (hl : l < μ0.length) {M : Nat} (f : Fr μ μ' l) (d : Dk μ' l M) : St1 μ0 μ' l M many long Bf :=
  ⟨f.len.trans h.len, fun k hk hn => (f.at_ k hn).trans (h.fr k hk hn), d, (f.at_ _ (by omega)).trans h.rws, fun k hk => by
    obtain ⟨xs, e, q⟩ := h.row k hk
    exact ⟨xs, (f.at_ _ (by omega)).trans e, q⟩⟩
theorem St2.step {μ' : Sto} (h : St2 μ0 μ l N many long B) (hl : l < μ0.length) {M : Nat} (f : Fr μ μ' l) (d : Dk μ' l M) : St2 μ0 μ' l M many long B := by
  refine ⟨f.len.trans h.len, fun k hk hn => (f.at_ k hn).trans (h.fr k hk hn), d, ?_⟩
  obtain ⟨ds, h1, h2, h3⟩ := h.rws
  refine ⟨ds, (f.at_ _ (by omega)).trans h1, h2, fun d hd => ?_⟩
  obtain ⟨xs, e, q, w⟩ := h3 d hd
  refine ⟨xs, ?_, q, w⟩
  rcases w with rfl | ⟨c, rfl, hc, hc2⟩
  · exact e
  · show (match μ'[c]? with | some (C.lst xs) => some xs | _ => none) = _
    rw [f.at_ c (by omega)]; exact e
theorem St1.mono {Bf Bg : Nat → Nat} (h : St1 μ0 μ l N many long Bf) {M : Nat} (k : N ≤ M) (g : ∀ k, k < many → Bf k ≤ Bg k) : St1 μ0 μ l M many long Bg :=
  ⟨h.len, h.fr, h.dk.mono k, h.rws, fun k hk => by obtain ⟨xs, e, q⟩ := h.row k hk; exact ⟨xs, e, q.mono (g k hk)⟩⟩
theorem St2.mono (h : St2 μ0 μ l N many long B) {M C : Nat} (k : N ≤ M) (g : B ≤ C) : St2 μ0 μ l M many long C := by
  obtain ⟨ds, h1, h2, h3⟩ := h.rws
  refine ⟨h.len, h.fr, h.dk.mono k, ds, h1, h2, fun d hd => ?_⟩
  obtain ⟨xs, e, q, w⟩ := h3 d hd
  exact ⟨xs, e, q.mono g, w⟩
theorem St1.two {Bf : Nat → Nat} (h : St1 μ0 μ l N many long Bf) (g : ∀ k, k < many → Bf k ≤ B) : St2 μ0 μ l N many long B := by
  refine ⟨h.len, h.fr, h.dk, _, h.rws, by simp, fun d hd => ?_⟩
  obtain ⟨k, hk, rfl⟩ := List.mem_map.mp hd
  have hk := List.mem_range.mp hk
  obtain ⟨xs, e, q⟩ := h.row k hk
  refine ⟨xs, ?_, q.mono (g k hk), .inr ⟨_, rfl, by omega, by omega⟩⟩
  show (match μ[μ0.length + k]? with | some (C.lst xs) => some xs | _ => none) = _
  rw [e]
/-- a row is put in -/
theorem St2.put (h : St2 μ0 μ l N many long B) (hl : l < μ0.length) {k : Nat} {xs : List D} (q : Ints B long xs) : ∃ ds, μ[μ0.length + many]? = some (.lst ds) ∧ ds.length = many ∧ St2 μ0 (μ.set (μ0.length + many) (.lst (ds.set k (.lst xs)))) l N many long B := by
  obtain ⟨ds, h1, h2, h3⟩ := h.rws
  have hlen : μ0.length + many < μ.length := by have := h.len; omega
  have keep : ∀ c, c < μ0.length + many → (μ.set (μ0.length + many) (.lst (ds.set k (.lst xs))))[c]? = μ[c]? := fun c hc => List.getElem?_set_ne (by omega)
  refine ⟨ds, h1, h2, ⟨by rw [List.length_set]; exact h.len, fun k hk hn => (keep k (by omega)).trans (h.fr k hk hn), ?_, _, List.getElem?_set_self hlen, by rw [List.length_set]; exact h2, fun d hd => ?_⟩⟩
  · obtain ⟨a, bb, c, e, r⟩ := h.dk
    exact ⟨a, bb, c, (keep l (by omega)).trans e, r⟩
  · rcases List.mem_or_eq_of_mem_set hd with hd | rfl
    · obtain ⟨ys, e, q, w⟩ := h3 d hd
      refine ⟨ys, ?_, q, w⟩
      rcases w with rfl | ⟨c, rfl, hc, hc2⟩
      · exact e
      · show (match (μ.set (μ0.length + many) (.lst (ds.set k (.lst xs))))[c]? with | some (C.lst xs) => some xs | _ => none) = _
        rw [keep c hc2]; exact e
    · exact ⟨xs, rfl, q, .inl rfl⟩
/-- what is handed out -/
theorem St2.out (h : St2 μ0 μ l N many long B) (hl : l < μ0.length) : ∃ d f, frzTop μ0.length (.cell (μ0.length + many)) 0 μ = some (d, f) ∧ RowsR B many long d ∧ Dk (μ.take μ0.length) l N ∧ Fr μ0 (μ.take μ0.length) l := by
  obtain ⟨ds, h1, h2, h3⟩ := h.rws
  have fz : ∀ d ∈ ds, ∃ xs, frz μ0.length (μ.set (μ0.length + many) (.dct [])) 9 d = some (.lst xs) ∧ Ints B long xs := by
    intro d hd
    obtain ⟨xs, e, ⟨r, rfl, q, q2⟩, w⟩ := h3 d hd
    refine ⟨_, ?_, r, rfl, q, q2⟩
    rcases w with rfl | ⟨c, rfl, hc, hc2⟩
    · exact frz_intL (k := 7) r
    · have e : (match μ[c]? with | some (C.lst xs) => some xs | _ => none) = some (r.map .int) := e
      show (if c < μ0.length then some (D.cell c) else match (μ.set (μ0.length + many) (.dct []))[c]? with | some (.lst xs) => (xs.mapM (frz μ0.length (μ.set (μ0.length + many) (.dct [])) 8)).map D.lst | _ => none) = _
      rw [if_neg (by omega), List.getElem?_set_ne (by omega)]
      split at e
      · rename_i ys hy
        cases e
        rw [hy]
        exact frz_intL (k := 7) r
      · cases e
  have all : ∃ ys, ds.mapM (frz μ0.length (μ.set (μ0.length + many) (.dct [])) 9) = some ys ∧ ys.length = ds.length ∧ ∀ d ∈ ys, Row B long d := by
    clear h1 h2 h3
    induction ds with
    | nil => exact ⟨[], by simp, rfl, fun _ h => by cases h⟩
    | cons d ds ih =>
      obtain ⟨ys, h1, h2, h3⟩ := ih fun x hx => fz x (List.mem_cons_of_mem _ hx)
      obtain ⟨xs, e, q⟩ := fz d List.mem_cons_self
      refine ⟨.lst xs :: ys, by rw [List.mapM_cons, e, h1]; rfl, by simp [h2], fun x hx => ?_⟩
      rcases List.mem_cons.mp hx with rfl | hx
      · exact ⟨xs, rfl, q⟩
      · exact h3 x hx
  obtain ⟨ys, e, e2, e3⟩ := all
  refine ⟨.lst ys, 1, ?_, ?_, ?_, ?_⟩
  · show (if μ0.length + many < μ0.length then _ else match μ[μ0.length + many]? with
      | some (.lst xs) => (xs.mapM (frz μ0.length (μ.set (μ0.length + many) (.dct [])) 9)).map fun ys => (D.lst ys, 1)
      | _ => none) = _
    rw [if_neg (by omega), h1]
    show (ds.mapM (frz μ0.length (μ.set (μ0.length + many) (.dct [])) 9)).map _ = _
    rw [e]; rfl
  · have := rows_of e3
    rw [e2, h2] at this; exact this
  · obtain ⟨a, bb, c, e, r⟩ := h.dk
    exact ⟨a, bb, c, by rw [List.getElem?_take, if_pos hl]; exact e, r⟩
  · have := h.len
    refine ⟨by rw [List.length_take]; omega, fun k hk => ?_⟩
    rw [List.getElem?_take]
    split
    · rename_i h; exact ‹St2 μ0 μ l N many long B›.fr k h hk
    · rename_i h; rw [List.getElem?_eq_none (by omega)]
end
end VM

set_option Elab.async false
set_option maxRecDepth 10000
set_option autoImplicit false
set_option linter.unusedVariables false
set_option linter.unusedSimpArgs false
/-! rows drawn: the def -/
namespace VM
open PySem L2
variable {E : Exc → Sto → Prop} {P : Pg} {n b l N : Nat} {μ : Sto} {Q : D × Nat → Sto → Prop}
theorem wipe1 {ρ : Ev} {v : Nat} : wipeD ρ [v] = ρ.set v none := rfl
theorem wipe2 {ρ : Ev} {v w : Nat} : wipeD ρ [v, w] = (ρ.set w none).set v none := rfl
theorem bi_int_bl {k : Bool} : Wp (biD "int" [.bl k] μ) Q E ↔ Q (.int (if k then 1 else 0), 0) μ := wp_ok
theorem Fr.take {μ ν : Sto} {l : Nat} (f : Fr μ ν l) : ν.take μ.length = ν := by rw [← f.len, List.take_length]
theorem wp_lcRange {F : D → Sto → R (Option D)} {lo : Int} {m : Nat} {Q : List D → Sto → Prop} (I : Nat → List D → Sto → Prop) (h0 : I 0 [] μ)
    (hs : ∀ (i : Nat) acc μ', i < m → I i acc μ' → Wp (F (.int (lo + (i : Nat))) μ') (fun y μ2 => match y with | none => I (i + 1) acc μ2 | some d => acc.length < sizeLine ∧ I (i + 1) (acc ++ [d]) μ2) E) (he : ∀ acc μ', I m acc μ' → Q acc μ') :
    Wp (lcLoop F (.data (rangeD lo m)) ((Src.data (rangeD lo m)).size μ + 1) 0 [] μ) Q E := by
  refine wp_lcLoop (xs := rangeD lo m) I (fun _ _ _ _ => src_data _) (by rfl) h0 (fun i x acc μ' hx hI => ?_) fun acc μ' hI => ?_
  · obtain ⟨hi, rfl⟩ := range_at hx
    exact hs i acc μ' hi hI
  · rw [range_len] at hI; exact he acc μ' hI
theorem ws_forRange {T : Tb} {i : Nat} {it : VM.It} {body : Ss} {ρ : Ev} {N Bk Ct : Ev → Sto → Prop} {Rt : D → Nat → Sto → Prop} {X : Exc → Ev → Sto → Prop} (h : Wp (evIt T b it ρ μ) (fun src μ1 => ∃ (lo : Int) (m : Nat) (I : Nat → Ev → Sto → Prop), src = .data (rangeD lo m) ∧ I 0 ρ μ1 ∧
      (∀ (k : Nat) ρ' μ', k < m → I k ρ' μ' → Ws (runSs T b body (ρ'.set i (some (.int (lo + (k : Nat))))) μ') (I (k + 1)) Rt N (I (k + 1)) X) ∧ ∀ ρ' μ', I m ρ' μ' → N ρ' μ') (fun x μ => X x ρ μ)) :
    Ws (runS T b (.for_ (.name i) it body) ρ μ) N Rt Bk Ct X := by
  refine ws_for (wp_mono h (fun src μ1 ⟨lo, m, I, hsrc, h0, hs, he⟩ => ?_) fun _ _ h => h)
  subst hsrc
  refine ⟨rangeD lo m, I, fun _ _ _ _ => src_data _, by rfl, h0, fun k x ρ' μ' hx hI => ?_, fun ρ' μ' hI => ?_⟩
  · obtain ⟨hi, rfl⟩ := range_at hx
    exact hs k ρ' μ' hi hI
  · rw [range_len] at hI; exact he ρ' μ' hI
theorem szr {n : Nat} (h : n < 1000) : n < sizeLine := Nat.lt_trans h (by decide)
theorem srcL_cell {μ : Sto} {l : Nat} {xs : List D} (h : μ[l]? = some (.lst xs)) : srcL μ (.cell l) = some (.cell l) := by
  show (match μ[l]? with | some (C.lst _) => some (Src.cell l) | _ => none) = _
  rw [h]
theorem srcIt_cell {μ : Sto} {l : Nat} {xs : List D} (h : μ[l]? = some (.lst xs)) : srcIt μ (.cell l) = some (.cell l) := srcL_cell h
theorem St1.upd {μ0 : Sto} {many long : Nat} {Bf : Nat → Nat} (h : St1 μ0 μ l N many long Bf) (hl : l < μ0.length) {c B : Nat} (hc : c < many) {xs : List D} (q : Ints B long xs) : St1 μ0 (μ.set (μ0.length + c) (.lst xs)) l N many long (fun k => if k = c then B else Bf k) := by
  have ne : ∀ k, k ≠ μ0.length + c → (μ.set (μ0.length + c) (.lst xs))[k]? = μ[k]? := fun k hk => List.getElem?_set_ne (Ne.symm hk)
  have hlen := h.len
  refine ⟨by rw [List.length_set]; exact h.len, fun k hk hn => (ne k (by omega)).trans (h.fr k hk hn), ?_, (ne _ (by omega)).trans h.rws, fun k hk => ?_⟩
  · obtain ⟨a, bb, c', e, r⟩ := h.dk
    exact ⟨a, bb, c', (ne l (by omega)).trans e, r⟩
  · by_cases e : k = c
    · subst e
      rw [if_pos rfl]
      exact ⟨xs, List.getElem?_set_self (by omega), q⟩
    · rw [if_neg e]
      obtain ⟨ys, e2, q2⟩ := h.row k hk
      exact ⟨ys, (ne _ (by omega)).trans e2, q2⟩
theorem Ints.atI {B long : Nat} {xs : List D} (q : Ints B long xs) {j : Int} (h0 : 0 ≤ j) (h1 : j < long) : ∃ v : Int, L2.atI xs j = some (.int v) ∧ v.natAbs < 2 ^ B := by
  obtain ⟨v, e, hv⟩ := q.get (k := j.toNat) (by omega)
  exact ⟨v, by rw [atN h0 (by rw [q.len]; exact h1)]; exact e, hv⟩
section
variable {many long : Nat} {Nn Bk Ct : Ev → Sto → Prop} {Rt : VM.D → Nat → Sto → Prop} {X : Exc → Ev → Sto → Prop} {μ0 : Sto}
abbrev ev2 (l many long : Nat) (way size : Int) : Ev := [some (.cell l), some (.int many), some (.int long), some (.int way), some (.int size), none, none, none, none, none, none, none, none, none]
theorem rows_2 (D : Dr P) (hm2 : many ≤ 20) (hl2 : long ≤ 20) {way size : Int} (hsize : size = 0 ∨ size = 1 ∨ size = 2) (f12 : Fr μ0 μ l) (d2 : Dk μ l N) (hN : N ≤ 900000)
    (hn : Nn (ev2 l many long way size) μ) (hr : ∀ d f μ', RowsR 100 many long d → Dk μ' l (N + 400) → Fr μ0 μ' l → Rt d f μ') :
    Ws (runS (tb P (n + 2)) b s__law_rows_2 (ev2 l many long way size) μ) Nn Rt Bk Ct X := by
  have p30 : (1000000000 : Nat) < 2 ^ 100 := by decide
  unfold s__law_rows_2 ev2
  simp only [ws_ife, ws_set, ws_sub, ws_ret_, ws_expr, ws_pass, ws_retn, ws_brk, ws_cnt, x_cmp, x_cmp2, x_ix, x_int, x_bl, x_str, x_non, x_npart, x_bin, x_neg, x_not, x_and, x_or, x_ife, x_lst, x_tup, x_call, x_bi, x_thaw, x_glob, ws_nilE, ws_consE, y_var, List.getElem?_cons_zero, List.getElem?_cons_succ, Option.some.injEq, exists_eq_left', List.set_cons_zero, List.set_cons_succ, c_gt, c_lt, c_le, c_ge, c_eq, c_ne, t_bl, t_int, n_add, n_sub, n_mul, n_mod, n_fdiv, n_pow, n_neg, ix_lst, ix_tup, decide_eq_true_eq, decide_eq_false_iff_not, ws_cons, ws_nil, x_lc, i_r1, lc_name, wipe1, VM.D.int.injEq]
  refine ⟨fun _ => ⟨small_of (by omega) (by omega), ?_⟩, fun _ => hn⟩
  refine wp_lcRange (fun i acc μ' => (∀ d ∈ acc, Row 100 long d) ∧ acc.length = i ∧ Dk μ' l (N + i * long) ∧ Fr μ0 μ' l) ⟨(fun _ h => by cases h), rfl, d2.mono (by omega), f12⟩ (fun i acc μ3 hi hI => ?_) fun acc μ3 hI => ?_
  · have h1 := hI.1; have h2 := hI.2.1; have h3 := hI.2.2.1; have h4 := hI.2.2.2
    simp only [ws_ife, ws_set, ws_sub, ws_ret_, ws_expr, ws_pass, ws_retn, ws_brk, ws_cnt, x_cmp, x_cmp2, x_ix, x_int, x_bl, x_str, x_non, x_npart, x_bin, x_neg, x_not, x_and, x_or, x_ife, x_lst, x_tup, x_call, x_bi, x_thaw, x_glob, ws_nilE, ws_consE, y_var, List.getElem?_cons_zero, List.getElem?_cons_succ, Option.some.injEq, exists_eq_left', List.set_cons_zero, List.set_cons_succ, c_gt, c_lt, c_le, c_ge, c_eq, c_ne, t_bl, t_int, n_add, n_sub, n_mul, n_mod, n_fdiv, n_pow, n_neg, ix_lst, ix_tup, decide_eq_true_eq, decide_eq_false_iff_not, x_lc, i_r1, lc_name, wipe1, VM.D.int.injEq, Bool.true_eq_false, false_implies, and_true, true_implies]
    refine ⟨small_of (by omega) (by omega), ?_⟩
    refine wp_lcRange (fun j ac μ' => Ints 100 j ac ∧ Dk μ' l (N + i * long + j) ∧ Fr μ0 μ' l) ⟨.nil, h3.mono (by omega), h4⟩ (fun j ac μ4 hj hJ => ?_) fun ac μ4 hJ => ?_
    · have g1 := hJ.1; have g2 := hJ.2.1; have g3 := hJ.2.2
      have il : i * long ≤ 20 * 20 := Nat.mul_le_mul (by omega) hl2
      simp only [ws_ife, ws_set, ws_sub, ws_ret_, ws_expr, ws_pass, ws_retn, ws_brk, ws_cnt, x_cmp, x_cmp2, x_ix, x_int, x_bl, x_str, x_non, x_npart, x_bin, x_neg, x_not, x_and, x_or, x_ife, x_lst, x_tup, x_call, x_bi, x_thaw, x_glob, ws_nilE, ws_consE, y_var, List.getElem?_cons_zero, List.getElem?_cons_succ, Option.some.injEq, exists_eq_left', List.set_cons_zero, List.set_cons_succ, c_gt, c_lt, c_le, c_ge, c_eq, c_ne, t_bl, t_int, n_add, n_sub, n_mul, n_mod, n_fdiv, n_pow, n_neg, ix_lst, ix_tup, decide_eq_true_eq, decide_eq_false_iff_not, lc_name, wipe1, Bool.true_eq_false, false_implies, and_true, true_implies]
      exact number D.pick D.number hsize g2 (by omega) fun r μ5 r1 _ _ d5 f5 => ⟨szr (by rw [g1.len]; omega), g1.snoc (Nat.lt_of_le_of_lt r1 p30), d5, g3.trans f5⟩
    · have g1 := hJ.1; have g2 := hJ.2.1; have g3 := hJ.2.2
      refine ⟨szr (by rw [h2]; omega), fun d hd => ?_, by simp [h2], g2.mono ?_, g3⟩
      · rcases List.mem_append.mp hd with hd | hd
        · exact h1 d hd
        · rw [List.mem_singleton.mp hd]
          exact ⟨ac, rfl, by simpa using g1⟩
      · rw [Nat.succ_mul]; simp; omega
  · have h1 := hI.1; have h2 := hI.2.1; have h3 := hI.2.2.1; have h4 := hI.2.2.2
    have : Int.toNat many * long ≤ 20 * 20 := Nat.mul_le_mul (by omega) hl2
    have := rows_of h1
    rw [h2, Int.toNat_natCast] at this
    exact hr _ _ _ this (h3.mono (by omega)) h4
abbrev ev3 (l r0 many long : Nat) (way size : Int) (o5 o6 o8 o9 o10 o11 o12 o13 : Option VM.D) : Ev := [some (.cell l), some (.int many), some (.int long), some (.int way), some (.int size), o5, o6, some (.cell r0), o8, o9, o10, o11, o12, o13]
theorem rows_3 (hm2 : many ≤ 20) (hl2 : long ≤ 20) {way size : Int} (f12 : Fr μ0 μ l) (d2 : Dk μ l N)
    (hn : ∀ μ', St1 μ0 μ' l N many long (fun _ => 1) → Nn (ev3 l (μ0.length + many) many long way size none none none none none none none none) μ') :
    Ws (runS (tb P (n + 2)) b s__law_rows_3 (ev2 l many long way size) μ) Nn Rt Bk Ct X := by
  have hl := d2.lt
  have len2 := f12.len
  unfold s__law_rows_3 ev2
  simp only [ws_ife, ws_set, ws_sub, ws_ret_, ws_expr, ws_pass, ws_retn, ws_brk, ws_cnt, x_cmp, x_cmp2, x_ix, x_int, x_bl, x_str, x_non, x_npart, x_bin, x_neg, x_not, x_and, x_or, x_ife, x_lst, x_tup, x_call, x_bi, x_thaw, x_glob, ws_nilE, ws_consE, y_var, List.getElem?_cons_zero, List.getElem?_cons_succ, Option.some.injEq, exists_eq_left', List.set_cons_zero, List.set_cons_succ, c_gt, c_lt, c_le, c_ge, c_eq, c_ne, t_bl, t_int, n_add, n_sub, n_mul, n_mod, n_fdiv, n_pow, n_neg, ix_lst, ix_tup, decide_eq_true_eq, decide_eq_false_iff_not, x_lc, i_r1, lc_name, wipe1, VM.D.int.injEq, Prod.mk.injEq, VM.D.lst.injEq]
  refine ⟨small_of (by omega) (by omega), ?_⟩
  refine wp_lcRange (fun i acc μ' => μ'.length = μ0.length + i ∧ (∀ k, k < μ0.length → μ'[k]? = μ[k]?) ∧ acc = (List.range i).map (fun k => .cell (μ0.length + k)) ∧ ∀ k, k < i → ∃ xs, μ'[μ0.length + k]? = some (.lst xs) ∧ Ints 1 long xs) ⟨by omega, fun _ _ => rfl, rfl, fun _ h => by omega⟩ (fun i acc μ3 hi hI => ?_) fun acc μ3 hI => ?_
  · have h1 := hI.1; have h2 := hI.2.1; have h3 := hI.2.2.1; have h4 := hI.2.2.2
    simp only [ws_ife, ws_set, ws_sub, ws_ret_, ws_expr, ws_pass, ws_retn, ws_brk, ws_cnt, x_cmp, x_cmp2, x_ix, x_int, x_bl, x_str, x_non, x_npart, x_bin, x_neg, x_not, x_and, x_or, x_ife, x_lst, x_tup, x_call, x_bi, x_thaw, x_glob, ws_nilE, ws_consE, y_var, List.getElem?_cons_zero, List.getElem?_cons_succ, Option.some.injEq, exists_eq_left', List.set_cons_zero, List.set_cons_succ, c_gt, c_lt, c_le, c_ge, c_eq, c_ne, t_bl, t_int, n_add, n_sub, n_mul, n_mod, n_fdiv, n_pow, n_neg, ix_lst, ix_tup, decide_eq_true_eq, decide_eq_false_iff_not, x_lc, i_r1, lc_name, wipe1, VM.D.int.injEq, Bool.true_eq_false, false_implies, and_true, true_implies, Prod.mk.injEq, VM.D.lst.injEq]
    refine ⟨small_of (by omega) (by omega), ?_⟩
    refine wp_lcRange (fun j ac μ' => Ints 1 j ac ∧ μ' = μ3) ⟨.nil, rfl⟩ (fun j ac μ4 hj hJ => ?_) fun ac μ4 hJ => ?_
    · have g1 := hJ.1; have g2 := hJ.2
      subst g2
      simp only [ws_ife, ws_set, ws_sub, ws_ret_, ws_expr, ws_pass, ws_retn, ws_brk, ws_cnt, x_cmp, x_cmp2, x_ix, x_int, x_bl, x_str, x_non, x_npart, x_bin, x_neg, x_not, x_and, x_or, x_ife, x_lst, x_tup, x_call, x_bi, x_thaw, x_glob, ws_nilE, ws_consE, y_var, List.getElem?_cons_zero, List.getElem?_cons_succ, Option.some.injEq, exists_eq_left', List.set_cons_zero, List.set_cons_succ, c_gt, c_lt, c_le, c_ge, c_eq, c_ne, t_bl, t_int, n_add, n_sub, n_mul, n_mod, n_fdiv, n_pow, n_neg, ix_lst, ix_tup, decide_eq_true_eq, decide_eq_false_iff_not, lc_name, wipe1, Bool.true_eq_false, false_implies, and_true, true_implies, bi_int_bl]
      refine ⟨szr (by rw [g1.len]; omega), g1.snoc ?_⟩
      split <;> decide
    · have g1 := hJ.1; have g2 := hJ.2
      subst g2
      refine ⟨ac, 0, ⟨rfl, rfl⟩, szr (by rw [h3]; simp; omega), by simp [h1]; omega, fun k hk => ?_, ?_, fun k hk => ?_⟩
      · rw [List.getElem?_append_left (by omega)]; exact h2 k hk
      · rw [h3, h1, List.range_succ, List.map_append]; rfl
      · by_cases e : k = i
        · rw [e, ← h1, List.getElem?_append_right (Nat.le_refl _)]
          exact ⟨ac, by simp, by simpa using g1⟩
        · obtain ⟨xs, q1, q2⟩ := h4 k (by omega)
          exact ⟨xs, by rw [List.getElem?_append_left (by omega)]; exact q1, q2⟩
  · have h1 := hI.1; have h2 := hI.2.1; have h3 := hI.2.2.1; have h4 := hI.2.2.2
    rw [Int.toNat_natCast] at h1 h3 h4
    refine ⟨acc, 0, ⟨rfl, rfl⟩, ?_⟩
    rw [h1]
    refine hn _ ⟨by simp [h1], fun k hk hn => ?_, ?_, ?_, fun k hk => ?_⟩
    · rw [List.getElem?_append_left (by omega), h2 k hk]; exact f12.at_ k hn
    · obtain ⟨a, bb, c, e, r⟩ := d2
      exact ⟨a, bb, c, by rw [List.getElem?_append_left (by omega), h2 l (by omega)]; exact e, r⟩
    · rw [← h1, List.getElem?_append_right (Nat.le_refl _), h3]; simp
    · obtain ⟨xs, q1, q2⟩ := h4 k hk
      exact ⟨xs, by rw [List.getElem?_append_left (by omega)]; exact q1, q2⟩
end
end VM

set_option Elab.async false
set_option maxRecDepth 10000
set_option autoImplicit false
set_option linter.unusedVariables false
set_option linter.unusedSimpArgs false
/-! rows drawn: the turns -/
namespace VM
open PySem L2
variable {E : Exc → Sto → Prop} {P : Pg} {n b l N : Nat} {μ : Sto}
section
variable {many long : Nat} {Nn Bk Ct : Ev → Sto → Prop} {Rt : VM.D → Nat → Sto → Prop} {X : Exc → Ev → Sto → Prop} {μ0 : Sto}
theorem three {p : Int} (h0 : 0 ≤ p) (h1 : p < 3) : ∃ w : Int, atI [VM.D.int 0, VM.D.int 0, VM.D.int 2] p = some (.int w) ∧ (w = 0 ∨ w = 1 ∨ w = 2) ∧ w ≠ 1 := by
  have : p = 0 ∨ p = 1 ∨ p = 2 := by omega
  rcases this with rfl | rfl | rfl
  · exact ⟨0, at0, .inl rfl, by decide⟩
  · exact ⟨0, at1, .inl rfl, by decide⟩
  · exact ⟨2, at2, .inr (.inr rfl), by decide⟩
theorem rows_4 (D : Dr P) (hm2 : many ≤ 20) (hl1 : 1 ≤ long) (hl2 : long ≤ 20) (hl : l < μ0.length) {way size : Int} (S : St1 μ0 μ l N many long fun _ => 1) (hN : N ≤ 900000)
    (hn : ∀ o5 o6 o8 o9 o10 μ', St1 μ0 μ' l (N + 40) many long (fun _ => 81) → Nn (ev3 l (μ0.length + many) many long way size o5 o6 o8 o9 o10 none none none) μ') :
    Ws (runS (tb P (n + 2)) b s__law_rows_4 (ev3 l (μ0.length + many) many long way size none none none none none none none none) μ) Nn Rt Bk Ct X := by
  unfold s__law_rows_4
  refine ws_forRange ?_
  simp only [ws_ife, ws_set, ws_sub, ws_ret_, ws_expr, ws_pass, ws_retn, ws_brk, ws_cnt, x_cmp, x_cmp2, x_ix, x_int, x_bl, x_str, x_non, x_npart, x_bin, x_neg, x_not, x_and, x_or, x_ife, x_lst, x_tup, x_call, x_bi, x_thaw, x_glob, ws_nilE, ws_consE, y_var, List.getElem?_cons_zero, List.getElem?_cons_succ, Option.some.injEq, exists_eq_left', List.set_cons_zero, List.set_cons_succ, c_gt, c_lt, c_le, c_ge, c_eq, c_ne, t_bl, t_int, n_add, n_sub, n_mul, n_mod, n_fdiv, n_pow, n_neg, ix_lst, ix_tup, decide_eq_true_eq, decide_eq_false_iff_not, i_r1]
  refine pick D.pick S.dk (by omega) (by decide) (by decide) fun p μ1 p0 p1 d1 f1 => ?_
  simp only [ws_ife, ws_set, ws_sub, ws_ret_, ws_expr, ws_pass, ws_retn, ws_brk, ws_cnt, x_cmp, x_cmp2, x_ix, x_int, x_bl, x_str, x_non, x_npart, x_bin, x_neg, x_not, x_and, x_or, x_ife, x_lst, x_tup, x_call, x_bi, x_thaw, x_glob, ws_nilE, ws_consE, y_var, List.getElem?_cons_zero, List.getElem?_cons_succ, Option.some.injEq, exists_eq_left', List.set_cons_zero, List.set_cons_succ, c_gt, c_lt, c_le, c_ge, c_eq, c_ne, t_bl, t_int, n_add, n_sub, n_mul, n_mod, n_fdiv, n_pow, n_neg, ix_lst, ix_tup, decide_eq_true_eq, decide_eq_false_iff_not, VM.D.int.injEq]
  have S1 := S.step hl f1 d1
  refine ⟨small_of (by omega) (by omega), 0, _, fun t ρ' μ' => ∃ o5 o6 o8 o9 o10, ρ' = ev3 l (μ0.length + many) many long way size o5 o6 o8 o9 o10 none none none ∧ St1 μ0 μ' l (N + 1 + 4 * t) many long (fun _ => 1 + 10 * t), rfl, ⟨none, none, none, none, none, rfl, S1⟩, fun t ρ' μ2 ht hI => ?_, fun ρ' μ' hI => ?_⟩
  · obtain ⟨o5, o6, o8, o9, o10, rfl, S2⟩ := hI
    have ht : t < 8 := by omega
    simp only [ev3, ws_ife, ws_set, ws_sub, ws_ret_, ws_expr, ws_pass, ws_retn, ws_brk, ws_cnt, x_cmp, x_cmp2, x_ix, x_int, x_bl, x_str, x_non, x_npart, x_bin, x_neg, x_not, x_and, x_or, x_ife, x_lst, x_tup, x_call, x_bi, x_thaw, x_glob, ws_nilE, ws_consE, y_var, List.getElem?_cons_zero, List.getElem?_cons_succ, Option.some.injEq, exists_eq_left', List.set_cons_zero, List.set_cons_succ, c_gt, c_lt, c_le, c_ge, c_eq, c_ne, t_bl, t_int, n_add, n_sub, n_mul, n_mod, n_fdiv, n_pow, n_neg, ix_lst, ix_tup, decide_eq_true_eq, decide_eq_false_iff_not]
    rw [ws_cons]
    simp only [ws_ife, ws_set, ws_sub, ws_ret_, ws_expr, ws_pass, ws_retn, ws_brk, ws_cnt, x_cmp, x_cmp2, x_ix, x_int, x_bl, x_str, x_non, x_npart, x_bin, x_neg, x_not, x_and, x_or, x_ife, x_lst, x_tup, x_call, x_bi, x_thaw, x_glob, ws_nilE, ws_consE, y_var, List.getElem?_cons_zero, List.getElem?_cons_succ, Option.some.injEq, exists_eq_left', List.set_cons_zero, List.set_cons_succ, c_gt, c_lt, c_le, c_ge, c_eq, c_ne, t_bl, t_int, n_add, n_sub, n_mul, n_mod, n_fdiv, n_pow, n_neg, ix_lst, ix_tup, decide_eq_true_eq, decide_eq_false_iff_not]
    refine pick D.pick S2.dk (by omega) (by omega) (by omega) fun i μ3 i0 i1 d3 f3 => ?_
    have S3 := S2.step hl f3 d3
    simp only [ws_ife, ws_set, ws_sub, ws_ret_, ws_expr, ws_pass, ws_retn, ws_brk, ws_cnt, x_cmp, x_cmp2, x_ix, x_int, x_bl, x_str, x_non, x_npart, x_bin, x_neg, x_not, x_and, x_or, x_ife, x_lst, x_tup, x_call, x_bi, x_thaw, x_glob, ws_nilE, ws_consE, y_var, List.getElem?_cons_zero, List.getElem?_cons_succ, Option.some.injEq, exists_eq_left', List.set_cons_zero, List.set_cons_succ, c_gt, c_lt, c_le, c_ge, c_eq, c_ne, t_bl, t_int, n_add, n_sub, n_mul, n_mod, n_fdiv, n_pow, n_neg, ix_lst, ix_tup, decide_eq_true_eq, decide_eq_false_iff_not]
    rw [ws_cons]
    simp only [ws_ife, ws_set, ws_sub, ws_ret_, ws_expr, ws_pass, ws_retn, ws_brk, ws_cnt, x_cmp, x_cmp2, x_ix, x_int, x_bl, x_str, x_non, x_npart, x_bin, x_neg, x_not, x_and, x_or, x_ife, x_lst, x_tup, x_call, x_bi, x_thaw, x_glob, ws_nilE, ws_consE, y_var, List.getElem?_cons_zero, List.getElem?_cons_succ, Option.some.injEq, exists_eq_left', List.set_cons_zero, List.set_cons_succ, c_gt, c_lt, c_le, c_ge, c_eq, c_ne, t_bl, t_int, n_add, n_sub, n_mul, n_mod, n_fdiv, n_pow, n_neg, ix_lst, ix_tup, decide_eq_true_eq, decide_eq_false_iff_not]
    refine pick D.pick S3.dk (by omega) (by omega) (by omega) fun j μ4 j0 j1 d4 f4 => ?_
    have S4 := S3.step hl f4 d4
    simp only [ws_ife, ws_set, ws_sub, ws_ret_, ws_expr, ws_pass, ws_retn, ws_brk, ws_cnt, x_cmp, x_cmp2, x_ix, x_int, x_bl, x_str, x_non, x_npart, x_bin, x_neg, x_not, x_and, x_or, x_ife, x_lst, x_tup, x_call, x_bi, x_thaw, x_glob, ws_nilE, ws_consE, y_var, List.getElem?_cons_zero, List.getElem?_cons_succ, Option.some.injEq, exists_eq_left', List.set_cons_zero, List.set_cons_succ, c_gt, c_lt, c_le, c_ge, c_eq, c_ne, t_bl, t_int, n_add, n_sub, n_mul, n_mod, n_fdiv, n_pow, n_neg, ix_lst, ix_tup, decide_eq_true_eq, decide_eq_false_iff_not]
    rw [ws_cons]
    simp only [ws_ife, ws_set, ws_sub, ws_ret_, ws_expr, ws_pass, ws_retn, ws_brk, ws_cnt, x_cmp, x_cmp2, x_ix, x_int, x_bl, x_str, x_non, x_npart, x_bin, x_neg, x_not, x_and, x_or, x_ife, x_lst, x_tup, x_call, x_bi, x_thaw, x_glob, ws_nilE, ws_consE, y_var, List.getElem?_cons_zero, List.getElem?_cons_succ, Option.some.injEq, exists_eq_left', List.set_cons_zero, List.set_cons_succ, c_gt, c_lt, c_le, c_ge, c_eq, c_ne, t_bl, t_int, n_add, n_sub, n_mul, n_mod, n_fdiv, n_pow, n_neg, ix_lst, ix_tup, decide_eq_true_eq, decide_eq_false_iff_not, List.length_cons, List.length_nil]
    refine ⟨by decide, pick D.pick S4.dk (by omega) (by decide) (by decide) fun p μ5 p0 p1 d5 f5 => ?_⟩
    have S5 := S4.step hl f5 d5
    obtain ⟨w, hw, hw2, hw3⟩ := three p0 p1
    simp only [ws_ife, ws_set, ws_sub, ws_ret_, ws_expr, ws_pass, ws_retn, ws_brk, ws_cnt, x_cmp, x_cmp2, x_ix, x_int, x_bl, x_str, x_non, x_npart, x_bin, x_neg, x_not, x_and, x_or, x_ife, x_lst, x_tup, x_call, x_bi, x_thaw, x_glob, ws_nilE, ws_consE, y_var, List.getElem?_cons_zero, List.getElem?_cons_succ, Option.some.injEq, exists_eq_left', List.set_cons_zero, List.set_cons_succ, c_gt, c_lt, c_le, c_ge, c_eq, c_ne, t_bl, t_int, n_add, n_sub, n_mul, n_mod, n_fdiv, n_pow, n_neg, ix_lst, ix_tup, decide_eq_true_eq, decide_eq_false_iff_not, hw]
    refine number D.pick D.number hw2 S5.dk (by omega) fun sh μ6 _ s1 _ d6 f6 => ?_
    have S6 := S5.step hl f6 d6
    have s1 := s1 hw3
    simp only [ws_ife, ws_set, ws_sub, ws_ret_, ws_expr, ws_pass, ws_retn, ws_brk, ws_cnt, x_cmp, x_cmp2, x_ix, x_int, x_bl, x_str, x_non, x_npart, x_bin, x_neg, x_not, x_and, x_or, x_ife, x_lst, x_tup, x_call, x_bi, x_thaw, x_glob, ws_nilE, ws_consE, y_var, List.getElem?_cons_zero, List.getElem?_cons_succ, Option.some.injEq, exists_eq_left', List.set_cons_zero, List.set_cons_succ, c_gt, c_lt, c_le, c_ge, c_eq, c_ne, t_bl, t_int, n_add, n_sub, n_mul, n_mod, n_fdiv, n_pow, n_neg, ix_lst, ix_tup, decide_eq_true_eq, decide_eq_false_iff_not]
    rw [ws_cons]
    refine ws_for ?_
    simp only [ws_ife, ws_set, ws_sub, ws_ret_, ws_expr, ws_pass, ws_retn, ws_brk, ws_cnt, x_cmp, x_cmp2, x_ix, x_int, x_bl, x_str, x_non, x_npart, x_bin, x_neg, x_not, x_and, x_or, x_ife, x_lst, x_tup, x_call, x_bi, x_thaw, x_glob, ws_nilE, ws_consE, y_var, List.getElem?_cons_zero, List.getElem?_cons_succ, Option.some.injEq, exists_eq_left', List.set_cons_zero, List.set_cons_succ, c_gt, c_lt, c_le, c_ge, c_eq, c_ne, t_bl, t_int, n_add, n_sub, n_mul, n_mod, n_fdiv, n_pow, n_neg, ix_lst, ix_tup, decide_eq_true_eq, decide_eq_false_iff_not, i_exD, srcIt_cell S6.rws]
    refine ⟨_, fun k ρ' μ' => ∃ o10, ρ' = ev3 l (μ0.length + many) many long way size (some (.int i)) (some (.int j)) (some (.int (0 + (t : Int)))) (some (.int sh)) o10 none none none ∧ St1 μ0 μ' l (N + 1 + 4 * t + 1 + 1 + 1 + 1) many long (fun c => if c < k then 1 + 10 * (t + 1) else 1 + 10 * t),
      fun k ρ' μ' hJ => ?_, size_cell S6.rws, ⟨o10, rfl, S6.mono (Nat.le_refl _) fun k _ => by simp⟩, fun k x ρ' μ7 hx hJ => ?_, fun ρ' μ' hJ => ?_⟩
    · obtain ⟨o10, _, SJ⟩ := hJ
      exact src_cell SJ.rws k
    · obtain ⟨o10, rfl, SJ⟩ := hJ
      rw [List.getElem?_map] at hx
      obtain ⟨c, hc, rfl⟩ := map_some hx
      obtain ⟨hk, hc⟩ := List.getElem?_eq_some_iff.mp hc
      rw [List.length_range] at hk
      rw [List.getElem_range] at hc
      subst hc
      obtain ⟨xs, hxs, q⟩ := SJ.row k hk
      have q : Ints (1 + 10 * t) long xs := by simpa using q
      obtain ⟨vi, hvi, bi⟩ := q.atI i0 i1
      obtain ⟨vj, hvj, bj⟩ := q.atI j0 j1
      have hset : ∀ v : Int, setD b (.cell (μ0.length + k)) (.int j) (.int v) μ7 = some (μ7.set (μ0.length + k) (.lst (xs.set j.toNat (.int v)))) := fun v => set_cell hxs (ixN_ok j0 (by rw [q.len]; exact j1)) put_int
      have b1 : sh.natAbs < 2 ^ 6 := by omega
      have b2 := mulB b1 bi
      have lt1 : 6 + (1 + 10 * t) < 130000000 - 1 := by omega
      have b3 : ((if i ≠ j then 1 else 0 : Int)).natAbs < 2 ^ 1 := by split <;> decide
      simp only [ev3, ws_cons, ws_nil, ws_ife, ws_set, ws_sub, ws_ret_, ws_expr, ws_pass, ws_retn, ws_brk, ws_cnt, x_cmp, x_cmp2, x_ix, x_int, x_bl, x_str, x_non, x_npart, x_bin, x_neg, x_not, x_and, x_or, x_ife, x_lst, x_tup, x_call, x_bi, x_thaw, x_glob, ws_nilE, ws_consE, y_var, List.getElem?_cons_zero, List.getElem?_cons_succ, Option.some.injEq, exists_eq_left', List.set_cons_zero, List.set_cons_succ, c_gt, c_lt, c_le, c_ge, c_eq, c_ne, t_bl, t_int, n_add, n_sub, n_mul, n_mod, n_fdiv, n_pow, n_neg, ix_lst, ix_tup, decide_eq_true_eq, decide_eq_false_iff_not, ix_cell hxs, hvi, hvj, bi_int_bl, hset]
      refine ⟨lgm b1 bi (Nat.lt_of_lt_of_le lt1 (by decide)), lgm b2 b3 (Nat.add_lt_of_lt_sub lt1), some (.cell (μ0.length + k)), rfl, (SJ.upd hl hk (q.mono (C := 1 + 10 * (t + 1)) (by omega) |>.set ?_)).mono (Nat.le_refl _) fun c _ => ?_⟩
      · have b4 := mulB b2 b3
        exact powM (addB (powM bj (by omega : 1 + 10 * t ≤ 8 + 10 * t)) (powM b4 (by omega))) (by omega)
      · by_cases e : c = k
        · rw [if_pos e, if_pos (by omega)]; exact Nat.le_refl _
        · rw [if_neg e]
          by_cases e2 : c < k
          · rw [if_pos e2, if_pos (by omega)]; exact Nat.le_refl _
          · rw [if_neg e2, if_neg (by omega)]; exact Nat.le_refl _
    · obtain ⟨o10, rfl, SJ⟩ := hJ
      simp only [List.length_map, List.length_range] at SJ
      rw [ws_nil]
      exact ⟨_, _, _, _, o10, rfl, SJ.mono (by omega) fun k hk => by simp only [hk, if_true]; exact Nat.le_refl _⟩
  · obtain ⟨o5, o6, o8, o9, o10, rfl, S2⟩ := hI
    exact hn _ _ _ _ _ _ (S2.mono (by omega) fun _ _ => by omega)
end
end VM

set_option Elab.async false
set_option maxRecDepth 10000
set_option autoImplicit false
set_option linter.unusedVariables false
set_option linter.unusedSimpArgs false
/-! rows drawn: what comes behind the turns -/
namespace VM
open PySem L2
variable {E : Exc → Sto → Prop} {P : Pg} {n b l N : Nat} {μ : Sto}
theorem src_of {d : VM.D} {xs : List VM.D} (h : itemsL μ d = some xs) : ∃ s, srcL μ d = some s ∧ (∀ i, s.at μ i = nxO xs[i]?) ∧ s.size μ = xs.length := by
  cases d with
  | lst ys => cases h; exact ⟨.data xs, rfl, fun _ => rfl, rfl⟩
  | cell c =>
    have h : (match μ[c]? with | some (C.lst xs) => some xs | _ => none) = some xs := h
    split at h
    · rename_i ys hy
      cases h
      exact ⟨.cell c, srcL_cell hy, fun i => src_cell hy i, size_cell hy⟩
    · cases h
  | _ => cases h
theorem srcIt_of {d : VM.D} {xs : List VM.D} {s : Src} (h : itemsL μ d = some xs) (k : srcL μ d = some s) : srcIt μ d = some s := by
  cases d <;> first | exact k | cases h
theorem at_mem {α : Type} {xs : List α} {i : Int} (h0 : -(xs.length : Int) ≤ i) (h1 : i < xs.length) : ∃ d, L2.atI xs i = some d ∧ d ∈ xs := by
  unfold L2.atI ixN
  by_cases h : 0 ≤ i
  · rw [if_pos h, if_pos h1]
    have : i.toNat < xs.length := by omega
    exact ⟨xs[i.toNat], by show xs[i.toNat]? = _; rw [List.getElem?_eq_getElem this], List.getElem_mem this⟩
  · rw [if_neg h, if_pos h0]
    have : (i + xs.length).toNat < xs.length := by omega
    exact ⟨xs[(i + xs.length).toNat], by show xs[(i + xs.length).toNat]? = _; rw [List.getElem?_eq_getElem this], List.getElem_mem this⟩
theorem wp_lcInts {F : VM.D → Sto → R (Option VM.D)} {src : Src} {xs : List VM.D} {Q : List VM.D → Sto → Prop} {B C long : Nat} (q : Ints B long xs) (hz : long < 1000) (hsrc : ∀ i, src.at μ i = nxO xs[i]?) (hsz : src.size μ = xs.length)
    (hs : ∀ x : Int, x.natAbs < 2 ^ B → Wp (F (.int x) μ) (fun y μ2 => μ2 = μ ∧ ∃ z : Int, y = some (.int z) ∧ z.natAbs < 2 ^ C) E) (he : ∀ ys, Ints C long ys → Q ys μ) : Wp (lcLoop F src (src.size μ + 1) 0 [] μ) Q E := by
  refine wp_lcLoop (xs := xs) (fun i acc μ' => μ' = μ ∧ Ints C i acc) (fun i acc μ' h => by rw [h.1]; exact hsrc i) hsz ⟨rfl, .nil⟩ (fun i x acc μ' hx hI => ?_) fun acc μ' hI => ?_
  · obtain ⟨rfl, h⟩ := hI
    obtain ⟨z, rfl, hz'⟩ := q.mem (List.mem_of_getElem? hx)
    have hi := (List.getElem?_eq_some_iff.mp hx).1
    rw [q.len] at hi
    refine wp_mono (hs z hz') (fun y μ2 hy => ?_) fun _ _ h => h
    obtain ⟨rfl, w, rfl, hw⟩ := hy
    exact ⟨szr (by rw [h.len]; omega), rfl, h.snoc hw⟩
  · obtain ⟨rfl, h⟩ := hI
    rw [q.len] at h
    exact he acc h
theorem wp_lcInts2 {F : VM.D → Sto → R (Option VM.D)} {s1 s2 : Src} {xs ys : List VM.D} {Q : List VM.D → Sto → Prop} {B C long : Nat} (q : Ints B long xs) (q2 : Ints B long ys) (hz : long < 1000) (hs1 : ∀ i, s1.at μ i = nxO xs[i]?) (hz1 : s1.size μ = xs.length) (hs2 : ∀ i, s2.at μ i = nxO ys[i]?) (hz2 : s2.size μ = ys.length)
    (hs : ∀ x y : Int, x.natAbs < 2 ^ B → y.natAbs < 2 ^ B → Wp (F (.tup [.int x, .int y]) μ) (fun y μ2 => μ2 = μ ∧ ∃ z : Int, y = some (.int z) ∧ z.natAbs < 2 ^ C) E) (he : ∀ ys, Ints C long ys → Q ys μ) : Wp (lcLoop F (.zip s1 s2) ((Src.zip s1 s2).size μ + 1) 0 [] μ) Q E := by
  have lz : (xs.zipWith (fun x y => VM.D.tup [x, y]) ys).length = long := by rw [List.length_zipWith, q.len, q2.len, Nat.min_self]
  refine wp_lcLoop (xs := xs.zipWith (fun x y => VM.D.tup [x, y]) ys) (fun i acc μ' => μ' = μ ∧ Ints C i acc) (fun i acc μ' h => by rw [h.1]; exact src_zip (hs1 i) (hs2 i)) (by show min (s1.size μ) (s2.size μ) = _; rw [hz1, hz2, List.length_zipWith]) ⟨rfl, .nil⟩ (fun i x acc μ' hx hI => ?_) fun acc μ' hI => ?_
  · obtain ⟨rfl, h⟩ := hI
    have hi := (List.getElem?_eq_some_iff.mp hx).1
    rw [lz] at hi
    obtain ⟨u, hu, bu⟩ := q.get hi
    obtain ⟨v, hv, bv⟩ := q2.get hi
    rw [List.getElem?_zipWith, hu, hv] at hx
    cases hx
    refine wp_mono (hs u v bu bv) (fun y μ2 hy => ?_) fun _ _ h => h
    obtain ⟨rfl, w, rfl, hw⟩ := hy
    exact ⟨szr (by rw [h.len]; omega), rfl, h.snoc hw⟩
  · obtain ⟨rfl, h⟩ := hI
    rw [lz] at h
    exact he acc h
section
variable {many long : Nat} {Nn Bk Ct : Ev → Sto → Prop} {Rt : VM.D → Nat → Sto → Prop} {X : Exc → Ev → Sto → Prop} {μ0 : Sto}
theorem St2.putS {B : Nat} (h : St2 μ0 μ l N many long B) (hl : l < μ0.length) (hb : b ≤ μ0.length + many) {ys : List VM.D} (q : Ints B long ys) {at_ : Int} (h0 : 0 ≤ at_) (h1 : at_ < many) :
    ∃ μ', setD b (.cell (μ0.length + many)) (.int at_) (.lst ys) μ = some μ' ∧ St2 μ0 μ' l N many long B := by
  obtain ⟨ds, e, e2, h'⟩ := h.put hl (k := at_.toNat) q
  exact ⟨_, set_cell e (ixN_ok h0 (by rw [e2]; exact h1)) (by unfold mayPut; simp [hb]), h'⟩
theorem rows_5 (D : Dr P) (hm1 : 1 ≤ many) (hm2 : many ≤ 12) (hl : l < μ0.length) {B : Nat} {way size : Int} {o5 o6 o8 o9 o10 o11 o12 o13 : Option VM.D} (S : St2 μ0 μ l N many long B) (hN : N ≤ 900000)
    (hn : ∀ (at_ : Int) μ', 0 ≤ at_ → at_ < many → St2 μ0 μ' l (N + 1) many long B → Nn (ev3 l (μ0.length + many) many long way size o5 o6 o8 o9 o10 (some (.int at_)) o12 o13) μ') :
    Ws (runS (tb P (n + 2)) b s__law_rows_5 (ev3 l (μ0.length + many) many long way size o5 o6 o8 o9 o10 o11 o12 o13) μ) Nn Rt Bk Ct X := by
  unfold s__law_rows_5
  simp only [ws_ife, ws_set, ws_sub, ws_ret_, ws_expr, ws_pass, ws_retn, ws_brk, ws_cnt, x_cmp, x_cmp2, x_ix, x_int, x_bl, x_str, x_non, x_npart, x_bin, x_neg, x_not, x_and, x_or, x_ife, x_lst, x_tup, x_call, x_bi, x_thaw, x_glob, ws_nilE, ws_consE, y_var, List.getElem?_cons_zero, List.getElem?_cons_succ, Option.some.injEq, exists_eq_left', List.set_cons_zero, List.set_cons_succ, c_gt, c_lt, c_le, c_ge, c_eq, c_ne, t_bl, t_int, n_add, n_sub, n_mul, n_mod, n_fdiv, n_pow, n_neg, ix_lst, ix_tup, decide_eq_true_eq, decide_eq_false_iff_not]
  refine pick D.pick S.dk (by omega) (by omega) (by omega) fun p μ1 p0 p1 d1 f1 => ?_
  simp only [ws_ife, ws_set, ws_sub, ws_ret_, ws_expr, ws_pass, ws_retn, ws_brk, ws_cnt, x_cmp, x_cmp2, x_ix, x_int, x_bl, x_str, x_non, x_npart, x_bin, x_neg, x_not, x_and, x_or, x_ife, x_lst, x_tup, x_call, x_bi, x_thaw, x_glob, ws_nilE, ws_consE, y_var, List.getElem?_cons_zero, List.getElem?_cons_succ, Option.some.injEq, exists_eq_left', List.set_cons_zero, List.set_cons_succ, c_gt, c_lt, c_le, c_ge, c_eq, c_ne, t_bl, t_int, n_add, n_sub, n_mul, n_mod, n_fdiv, n_pow, n_neg, ix_lst, ix_tup, decide_eq_true_eq, decide_eq_false_iff_not]
  exact hn _ _ p0 p1 (S.step hl f1 d1)
theorem rows_6 (D : Dr P) (hm1 : 1 ≤ many) (hm2 : many ≤ 12) (hl2 : long ≤ 20) (hl : l < μ0.length) (hb : b ≤ μ0.length + many) {B : Nat} (hB : B < 1000) {way size at_ : Int} {o5 o6 o8 o9 o10 o12 o13 : Option VM.D} (S : St2 μ0 μ l N many long B) (hN : N ≤ 900000) (a0 : 0 ≤ at_) (a1 : at_ < many)
    (hn : ∀ o9 μ', St2 μ0 μ' l (N + 2) many long (B + 4) → Nn (ev3 l (μ0.length + many) many long way size o5 o6 o8 o9 o10 (some (.int at_)) o12 o13) μ') :
    Ws (runS (tb P (n + 2)) b s__law_rows_6 (ev3 l (μ0.length + many) many long way size o5 o6 o8 o9 o10 (some (.int at_)) o12 o13) μ) Nn Rt Bk Ct X := by
  unfold s__law_rows_6
  simp only [ev3, ws_ife, ws_set, ws_sub, ws_ret_, ws_expr, ws_pass, ws_retn, ws_brk, ws_cnt, x_cmp, x_cmp2, x_ix, x_int, x_bl, x_str, x_non, x_npart, x_bin, x_neg, x_not, x_and, x_or, x_ife, x_lst, x_tup, x_call, x_bi, x_thaw, x_glob, ws_nilE, ws_consE, y_var, List.getElem?_cons_zero, List.getElem?_cons_succ, Option.some.injEq, exists_eq_left', List.set_cons_zero, List.set_cons_succ, c_gt, c_lt, c_le, c_ge, c_eq, c_ne, t_bl, t_int, n_add, n_sub, n_mul, n_mod, n_fdiv, n_pow, n_neg, ix_lst, ix_tup, decide_eq_true_eq, decide_eq_false_iff_not, ws_nil]
  refine ⟨fun _ => ?_, fun _ => hn _ _ (S.mono (by omega) (by omega))⟩
  rw [ws_cons]
  simp only [ws_ife, ws_set, ws_sub, ws_ret_, ws_expr, ws_pass, ws_retn, ws_brk, ws_cnt, x_cmp, x_cmp2, x_ix, x_int, x_bl, x_str, x_non, x_npart, x_bin, x_neg, x_not, x_and, x_or, x_ife, x_lst, x_tup, x_call, x_bi, x_thaw, x_glob, ws_nilE, ws_consE, y_var, List.getElem?_cons_zero, List.getElem?_cons_succ, Option.some.injEq, exists_eq_left', List.set_cons_zero, List.set_cons_succ, c_gt, c_lt, c_le, c_ge, c_eq, c_ne, t_bl, t_int, n_add, n_sub, n_mul, n_mod, n_fdiv, n_pow, n_neg, ix_lst, ix_tup, decide_eq_true_eq, decide_eq_false_iff_not]
  refine number D.pick D.number (.inl rfl) S.dk (by omega) fun r μ1 _ _ r1 d1 f1 => ?_
  have r1 := r1 rfl
  have S1 := S.step hl f1 d1
  simp only [ws_ife, ws_set, ws_sub, ws_ret_, ws_expr, ws_pass, ws_retn, ws_brk, ws_cnt, x_cmp, x_cmp2, x_ix, x_int, x_bl, x_str, x_non, x_npart, x_bin, x_neg, x_not, x_and, x_or, x_ife, x_lst, x_tup, x_call, x_bi, x_thaw, x_glob, ws_nilE, ws_consE, y_var, List.getElem?_cons_zero, List.getElem?_cons_succ, Option.some.injEq, exists_eq_left', List.set_cons_zero, List.set_cons_succ, c_gt, c_lt, c_le, c_ge, c_eq, c_ne, t_bl, t_int, n_add, n_sub, n_mul, n_mod, n_fdiv, n_pow, n_neg, ix_lst, ix_tup, decide_eq_true_eq, decide_eq_false_iff_not]
  refine ⟨lgm (p := 2) (q := 3) (by omega) (by decide) (by decide), pick D.pick S1.dk (by omega) (by decide) (by decide) fun p μ2 p0 p1 d2 f2 => ?_⟩
  have S2 := S1.step hl f2 d2
  simp only [ws_ife, ws_set, ws_sub, ws_ret_, ws_expr, ws_pass, ws_retn, ws_brk, ws_cnt, x_cmp, x_cmp2, x_ix, x_int, x_bl, x_str, x_non, x_npart, x_bin, x_neg, x_not, x_and, x_or, x_ife, x_lst, x_tup, x_call, x_bi, x_thaw, x_glob, ws_nilE, ws_consE, y_var, List.getElem?_cons_zero, List.getElem?_cons_succ, Option.some.injEq, exists_eq_left', List.set_cons_zero, List.set_cons_succ, c_gt, c_lt, c_le, c_ge, c_eq, c_ne, t_bl, t_int, n_add, n_sub, n_mul, n_mod, n_fdiv, n_pow, n_neg, ix_lst, ix_tup, decide_eq_true_eq, decide_eq_false_iff_not]
  rw [ws_cons]
  obtain ⟨ds, e, e2, e3⟩ := S2.rws
  obtain ⟨d, hd, hm⟩ := at_mem (xs := ds) (i := at_) (by omega) (by rw [e2]; exact a1)
  obtain ⟨xs, h1, q, _⟩ := e3 d hm
  obtain ⟨s, hs1, hs2, hs3⟩ := src_of h1
  have hs := srcIt_of h1 hs1
  simp only [ws_ife, ws_set, ws_sub, ws_ret_, ws_expr, ws_pass, ws_retn, ws_brk, ws_cnt, x_cmp, x_cmp2, x_ix, x_int, x_bl, x_str, x_non, x_npart, x_bin, x_neg, x_not, x_and, x_or, x_ife, x_lst, x_tup, x_call, x_bi, x_thaw, x_glob, ws_nilE, ws_consE, y_var, List.getElem?_cons_zero, List.getElem?_cons_succ, Option.some.injEq, exists_eq_left', List.set_cons_zero, List.set_cons_succ, c_gt, c_lt, c_le, c_ge, c_eq, c_ne, t_bl, t_int, n_add, n_sub, n_mul, n_mod, n_fdiv, n_pow, n_neg, ix_lst, ix_tup, decide_eq_true_eq, decide_eq_false_iff_not, x_lc, i_exD, ix_cell e, hd, hs, ws_nil]
  have hb2 : (r * 2 + p).natAbs < 2 ^ 3 := by omega
  refine wp_lcInts (C := B + 4) q (by omega) hs2 hs3 (fun x hx => ?_) fun ys hy => ?_
  · simp only [ws_ife, ws_set, ws_sub, ws_ret_, ws_expr, ws_pass, ws_retn, ws_brk, ws_cnt, x_cmp, x_cmp2, x_ix, x_int, x_bl, x_str, x_non, x_npart, x_bin, x_neg, x_not, x_and, x_or, x_ife, x_lst, x_tup, x_call, x_bi, x_thaw, x_glob, ws_nilE, ws_consE, y_var, List.getElem?_cons_zero, List.getElem?_cons_succ, Option.some.injEq, exists_eq_left', List.set_cons_zero, List.set_cons_succ, c_gt, c_lt, c_le, c_ge, c_eq, c_ne, t_bl, t_int, n_add, n_sub, n_mul, n_mod, n_fdiv, n_pow, n_neg, ix_lst, ix_tup, decide_eq_true_eq, decide_eq_false_iff_not, lc_name, wipe1, Bool.true_eq_false, false_implies, and_true, true_implies, true_and]
    refine ⟨lgm hb2 hx (by omega), _, rfl, powM (mulB hb2 hx) (by omega)⟩
  · obtain ⟨μ', h2, h3⟩ := (S2.mono (Nat.le_refl _) (by omega : B ≤ B + 4)).putS hl hb hy a0 a1
    simp only [ws_ife, ws_set, ws_sub, ws_ret_, ws_expr, ws_pass, ws_retn, ws_brk, ws_cnt, x_cmp, x_cmp2, x_ix, x_int, x_bl, x_str, x_non, x_npart, x_bin, x_neg, x_not, x_and, x_or, x_ife, x_lst, x_tup, x_call, x_bi, x_thaw, x_glob, ws_nilE, ws_consE, y_var, List.getElem?_cons_zero, List.getElem?_cons_succ, Option.some.injEq, exists_eq_left', List.set_cons_zero, List.set_cons_succ, c_gt, c_lt, c_le, c_ge, c_eq, c_ne, t_bl, t_int, n_add, n_sub, n_mul, n_mod, n_fdiv, n_pow, n_neg, ix_lst, ix_tup, decide_eq_true_eq, decide_eq_false_iff_not, h2]
    exact hn _ _ (h3.mono (by omega) (Nat.le_refl _))
theorem rows_7 (D : Dr P) (hm1 : 1 ≤ many) (hm2 : many ≤ 12) (hl2 : long ≤ 20) (hl : l < μ0.length) (hb : b ≤ μ0.length + many) {B : Nat} (hB : B < 1000) {way size at_ : Int} {o5 o6 o8 o9 o10 o12 o13 : Option VM.D} (S : St2 μ0 μ l N many long B) (hN : N ≤ 900000)
    (hn : ∀ o5 o6 o8 o9 μ', St2 μ0 μ' l (N + 100) many long (B + 96) → Nn (ev3 l (μ0.length + many) many long way size o5 o6 o8 o9 o10 (some (.int at_)) o12 o13) μ') :
    Ws (runS (tb P (n + 2)) b s__law_rows_7 (ev3 l (μ0.length + many) many long way size o5 o6 o8 o9 o10 (some (.int at_)) o12 o13) μ) Nn Rt Bk Ct X := by
  unfold s__law_rows_7
  refine ws_forRange ?_
  simp only [ev3, ws_ife, ws_set, ws_sub, ws_ret_, ws_expr, ws_pass, ws_retn, ws_brk, ws_cnt, x_cmp, x_cmp2, x_ix, x_int, x_bl, x_str, x_non, x_npart, x_bin, x_neg, x_not, x_and, x_or, x_ife, x_lst, x_tup, x_call, x_bi, x_thaw, x_glob, ws_nilE, ws_consE, y_var, List.getElem?_cons_zero, List.getElem?_cons_succ, Option.some.injEq, exists_eq_left', List.set_cons_zero, List.set_cons_succ, c_gt, c_lt, c_le, c_ge, c_eq, c_ne, t_bl, t_int, n_add, n_sub, n_mul, n_mod, n_fdiv, n_pow, n_neg, ix_lst, ix_tup, decide_eq_true_eq, decide_eq_false_iff_not, i_r1]
  refine ⟨lgm (p := 3) (q := 5) (by decide) (by omega) (by decide), ?_⟩
  refine pick D.pick S.dk (by omega) (by omega) (by omega) fun p μ1 p0 p1 d1 f1 => ?_
  simp only [ws_ife, ws_set, ws_sub, ws_ret_, ws_expr, ws_pass, ws_retn, ws_brk, ws_cnt, x_cmp, x_cmp2, x_ix, x_int, x_bl, x_str, x_non, x_npart, x_bin, x_neg, x_not, x_and, x_or, x_ife, x_lst, x_tup, x_call, x_bi, x_thaw, x_glob, ws_nilE, ws_consE, y_var, List.getElem?_cons_zero, List.getElem?_cons_succ, Option.some.injEq, exists_eq_left', List.set_cons_zero, List.set_cons_succ, c_gt, c_lt, c_le, c_ge, c_eq, c_ne, t_bl, t_int, n_add, n_sub, n_mul, n_mod, n_fdiv, n_pow, n_neg, ix_lst, ix_tup, decide_eq_true_eq, decide_eq_false_iff_not, VM.D.int.injEq]
  have S1 := S.step hl f1 d1
  refine ⟨small_of (by omega) (by omega), 0, _, fun t ρ' μ' => ∃ o5 o6 o8 o9, ρ' = ev3 l (μ0.length + many) many long way size o5 o6 o8 o9 o10 (some (.int at_)) o12 o13 ∧ St2 μ0 μ' l (N + 1 + 4 * t) many long (B + 4 * t), rfl, ⟨_, _, _, _, rfl, S1⟩, fun t ρ' μ2 ht hI => ?_, fun ρ' μ' hI => ?_⟩
  · obtain ⟨o5, o6, o8, o9, rfl, S2⟩ := hI
    have ht : t < 24 := by omega
    simp only [ev3, ws_ife, ws_set, ws_sub, ws_ret_, ws_expr, ws_pass, ws_retn, ws_brk, ws_cnt, x_cmp, x_cmp2, x_ix, x_int, x_bl, x_str, x_non, x_npart, x_bin, x_neg, x_not, x_and, x_or, x_ife, x_lst, x_tup, x_call, x_bi, x_thaw, x_glob, ws_nilE, ws_consE, y_var, List.getElem?_cons_zero, List.getElem?_cons_succ, Option.some.injEq, exists_eq_left', List.set_cons_zero, List.set_cons_succ, c_gt, c_lt, c_le, c_ge, c_eq, c_ne, t_bl, t_int, n_add, n_sub, n_mul, n_mod, n_fdiv, n_pow, n_neg, ix_lst, ix_tup, decide_eq_true_eq, decide_eq_false_iff_not]
    rw [ws_cons]
    simp only [ws_ife, ws_set, ws_sub, ws_ret_, ws_expr, ws_pass, ws_retn, ws_brk, ws_cnt, x_cmp, x_cmp2, x_ix, x_int, x_bl, x_str, x_non, x_npart, x_bin, x_neg, x_not, x_and, x_or, x_ife, x_lst, x_tup, x_call, x_bi, x_thaw, x_glob, ws_nilE, ws_consE, y_var, List.getElem?_cons_zero, List.getElem?_cons_succ, Option.some.injEq, exists_eq_left', List.set_cons_zero, List.set_cons_succ, c_gt, c_lt, c_le, c_ge, c_eq, c_ne, t_bl, t_int, n_add, n_sub, n_mul, n_mod, n_fdiv, n_pow, n_neg, ix_lst, ix_tup, decide_eq_true_eq, decide_eq_false_iff_not]
    refine pick D.pick S2.dk (by omega) (by omega) (by omega) fun i μ3 i0 i1 d3 f3 => ?_
    have S3 := S2.step hl f3 d3
    simp only [ws_ife, ws_set, ws_sub, ws_ret_, ws_expr, ws_pass, ws_retn, ws_brk, ws_cnt, x_cmp, x_cmp2, x_ix, x_int, x_bl, x_str, x_non, x_npart, x_bin, x_neg, x_not, x_and, x_or, x_ife, x_lst, x_tup, x_call, x_bi, x_thaw, x_glob, ws_nilE, ws_consE, y_var, List.getElem?_cons_zero, List.getElem?_cons_succ, Option.some.injEq, exists_eq_left', List.set_cons_zero, List.set_cons_succ, c_gt, c_lt, c_le, c_ge, c_eq, c_ne, t_bl, t_int, n_add, n_sub, n_mul, n_mod, n_fdiv, n_pow, n_neg, ix_lst, ix_tup, decide_eq_true_eq, decide_eq_false_iff_not]
    rw [ws_cons]
    simp only [ws_ife, ws_set, ws_sub, ws_ret_, ws_expr, ws_pass, ws_retn, ws_brk, ws_cnt, x_cmp, x_cmp2, x_ix, x_int, x_bl, x_str, x_non, x_npart, x_bin, x_neg, x_not, x_and, x_or, x_ife, x_lst, x_tup, x_call, x_bi, x_thaw, x_glob, ws_nilE, ws_consE, y_var, List.getElem?_cons_zero, List.getElem?_cons_succ, Option.some.injEq, exists_eq_left', List.set_cons_zero, List.set_cons_succ, c_gt, c_lt, c_le, c_ge, c_eq, c_ne, t_bl, t_int, n_add, n_sub, n_mul, n_mod, n_fdiv, n_pow, n_neg, ix_lst, ix_tup, decide_eq_true_eq, decide_eq_false_iff_not]
    refine pick D.pick S3.dk (by omega) (by omega) (by omega) fun j μ4 j0 j1 d4 f4 => ?_
    have S4 := S3.step hl f4 d4
    simp only [ws_ife, ws_set, ws_sub, ws_ret_, ws_expr, ws_pass, ws_retn, ws_brk, ws_cnt, x_cmp, x_cmp2, x_ix, x_int, x_bl, x_str, x_non, x_npart, x_bin, x_neg, x_not, x_and, x_or, x_ife, x_lst, x_tup, x_call, x_bi, x_thaw, x_glob, ws_nilE, ws_consE, y_var, List.getElem?_cons_zero, List.getElem?_cons_succ, Option.some.injEq, exists_eq_left', List.set_cons_zero, List.set_cons_succ, c_gt, c_lt, c_le, c_ge, c_eq, c_ne, t_bl, t_int, n_add, n_sub, n_mul, n_mod, n_fdiv, n_pow, n_neg, ix_lst, ix_tup, decide_eq_true_eq, decide_eq_false_iff_not]
    rw [ws_cons]
    simp only [ws_ife, ws_set, ws_sub, ws_ret_, ws_expr, ws_pass, ws_retn, ws_brk, ws_cnt, x_cmp, x_cmp2, x_ix, x_int, x_bl, x_str, x_non, x_npart, x_bin, x_neg, x_not, x_and, x_or, x_ife, x_lst, x_tup, x_call, x_bi, x_thaw, x_glob, ws_nilE, ws_consE, y_var, List.getElem?_cons_zero, List.getElem?_cons_succ, Option.some.injEq, exists_eq_left', List.set_cons_zero, List.set_cons_succ, c_gt, c_lt, c_le, c_ge, c_eq, c_ne, t_bl, t_int, n_add, n_sub, n_mul, n_mod, n_fdiv, n_pow, n_neg, ix_lst, ix_tup, decide_eq_true_eq, decide_eq_false_iff_not]
    refine number D.pick D.number (.inl rfl) S4.dk (by omega) fun sh μ5 _ _ s1 d5 f5 => ?_
    have s1 := s1 rfl
    have S5 := S4.step hl f5 d5
    simp only [ws_ife, ws_set, ws_sub, ws_ret_, ws_expr, ws_pass, ws_retn, ws_brk, ws_cnt, x_cmp, x_cmp2, x_ix, x_int, x_bl, x_str, x_non, x_npart, x_bin, x_neg, x_not, x_and, x_or, x_ife, x_lst, x_tup, x_call, x_bi, x_thaw, x_glob, ws_nilE, ws_consE, y_var, List.getElem?_cons_zero, List.getElem?_cons_succ, Option.some.injEq, exists_eq_left', List.set_cons_zero, List.set_cons_succ, c_gt, c_lt, c_le, c_ge, c_eq, c_ne, t_bl, t_int, n_add, n_sub, n_mul, n_mod, n_fdiv, n_pow, n_neg, ix_lst, ix_tup, decide_eq_true_eq, decide_eq_false_iff_not]
    rw [ws_cons]
    simp only [ws_ife, ws_set, ws_sub, ws_ret_, ws_expr, ws_pass, ws_retn, ws_brk, ws_cnt, x_cmp, x_cmp2, x_ix, x_int, x_bl, x_str, x_non, x_npart, x_bin, x_neg, x_not, x_and, x_or, x_ife, x_lst, x_tup, x_call, x_bi, x_thaw, x_glob, ws_nilE, ws_consE, y_var, List.getElem?_cons_zero, List.getElem?_cons_succ, Option.some.injEq, exists_eq_left', List.set_cons_zero, List.set_cons_succ, c_gt, c_lt, c_le, c_ge, c_eq, c_ne, t_bl, t_int, n_add, n_sub, n_mul, n_mod, n_fdiv, n_pow, n_neg, ix_lst, ix_tup, decide_eq_true_eq, decide_eq_false_iff_not, ws_nil]
    refine ⟨fun _ => ?_, fun _ => ⟨_, _, _, _, rfl, S5.mono (by omega) (by omega)⟩⟩
    rw [ws_cons]
    obtain ⟨ds, e, e2, e3⟩ := S5.rws
    obtain ⟨d, hd, hm⟩ := at_mem (xs := ds) (i := i) (by omega) (by rw [e2]; exact i1)
    obtain ⟨dj, hdj, hmj⟩ := at_mem (xs := ds) (i := j) (by omega) (by rw [e2]; exact j1)
    obtain ⟨xs, h1, q, _⟩ := e3 d hm
    obtain ⟨ys, h1j, qj, _⟩ := e3 dj hmj
    obtain ⟨s, hs1, hs2, hs3⟩ := src_of h1
    obtain ⟨sj, hs1j, hs2j, hs3j⟩ := src_of h1j
    simp only [ws_ife, ws_set, ws_sub, ws_ret_, ws_expr, ws_pass, ws_retn, ws_brk, ws_cnt, x_cmp, x_cmp2, x_ix, x_int, x_bl, x_str, x_non, x_npart, x_bin, x_neg, x_not, x_and, x_or, x_ife, x_lst, x_tup, x_call, x_bi, x_thaw, x_glob, ws_nilE, ws_consE, y_var, List.getElem?_cons_zero, List.getElem?_cons_succ, Option.some.injEq, exists_eq_left', List.set_cons_zero, List.set_cons_succ, c_gt, c_lt, c_le, c_ge, c_eq, c_ne, t_bl, t_int, n_add, n_sub, n_mul, n_mod, n_fdiv, n_pow, n_neg, ix_lst, ix_tup, decide_eq_true_eq, decide_eq_false_iff_not, x_lc, i_zp, ix_cell e, hd, hdj, hs1, hs1j, ws_nil]
    have hb2 : sh.natAbs < 2 ^ 2 := by omega
    refine wp_lcInts2 (C := B + 4 * (t + 1)) q qj (by omega) hs2 hs3 hs2j hs3j (fun x y hx hy => ?_) fun ys hy => ?_
    · simp only [ws_ife, ws_set, ws_sub, ws_ret_, ws_expr, ws_pass, ws_retn, ws_brk, ws_cnt, x_cmp, x_cmp2, x_ix, x_int, x_bl, x_str, x_non, x_npart, x_bin, x_neg, x_not, x_and, x_or, x_ife, x_lst, x_tup, x_call, x_bi, x_thaw, x_glob, ws_nilE, ws_consE, y_var, List.getElem?_cons_zero, List.getElem?_cons_succ, Option.some.injEq, exists_eq_left', List.set_cons_zero, List.set_cons_succ, c_gt, c_lt, c_le, c_ge, c_eq, c_ne, t_bl, t_int, n_add, n_sub, n_mul, n_mod, n_fdiv, n_pow, n_neg, ix_lst, ix_tup, decide_eq_true_eq, decide_eq_false_iff_not, lc_two, wipe2, Bool.true_eq_false, false_implies, and_true, true_implies, true_and]
      refine ⟨lgm hb2 hy (by omega), _, rfl, powM (addB (powM hx (by omega : B + 4 * t ≤ B + 4 * t + 2)) (powM (mulB hb2 hy) (by omega))) (by omega)⟩
    · obtain ⟨μ', h2, h3⟩ := (S5.mono (Nat.le_refl _) (by omega : B + 4 * t ≤ B + 4 * (t + 1))).putS hl hb hy i0 i1
      simp only [ws_ife, ws_set, ws_sub, ws_ret_, ws_expr, ws_pass, ws_retn, ws_brk, ws_cnt, x_cmp, x_cmp2, x_ix, x_int, x_bl, x_str, x_non, x_npart, x_bin, x_neg, x_not, x_and, x_or, x_ife, x_lst, x_tup, x_call, x_bi, x_thaw, x_glob, ws_nilE, ws_consE, y_var, List.getElem?_cons_zero, List.getElem?_cons_succ, Option.some.injEq, exists_eq_left', List.set_cons_zero, List.set_cons_succ, c_gt, c_lt, c_le, c_ge, c_eq, c_ne, t_bl, t_int, n_add, n_sub, n_mul, n_mod, n_fdiv, n_pow, n_neg, ix_lst, ix_tup, decide_eq_true_eq, decide_eq_false_iff_not, h2]
      exact ⟨_, _, _, _, rfl, h3.mono (by omega) (Nat.le_refl _)⟩
  · obtain ⟨o5, o6, o8, o9, rfl, S2⟩ := hI
    exact hn _ _ _ _ _ (S2.mono (by omega) (by omega))
theorem rows_8 (D : Dr P) (hm1 : 1 ≤ many) (hm2 : many ≤ 12) (hl2 : long ≤ 20) (hl : l < μ0.length) (hb : b ≤ μ0.length + many) {B : Nat} (hB : B < 1000) {way size at_ : Int} {o5 o6 o8 o9 o10 o12 o13 : Option VM.D} (S : St2 μ0 μ l N many long B) (hN : N ≤ 900000) (a0 : 0 ≤ at_) (a1 : at_ < many)
    (hn : ∀ o9 o12 μ', St2 μ0 μ' l (N + 1) many long (B + 3) → Nn (ev3 l (μ0.length + many) many long way size o5 o6 o8 o9 o10 (some (.int at_)) o12 o13) μ') :
    Ws (runS (tb P (n + 2)) b s__law_rows_8 (ev3 l (μ0.length + many) many long way size o5 o6 o8 o9 o10 (some (.int at_)) o12 o13) μ) Nn Rt Bk Ct X := by
  unfold s__law_rows_8
  obtain ⟨ds, e, e2, e3⟩ := S.rws
  obtain ⟨d, hd, hm⟩ := at_mem (xs := ds) (i := at_ - 1) (by omega) (by omega)
  simp only [ev3, ws_ife, ws_set, ws_sub, ws_ret_, ws_expr, ws_pass, ws_retn, ws_brk, ws_cnt, x_cmp, x_cmp2, x_ix, x_int, x_bl, x_str, x_non, x_npart, x_bin, x_neg, x_not, x_and, x_or, x_ife, x_lst, x_tup, x_call, x_bi, x_thaw, x_glob, ws_nilE, ws_consE, y_var, List.getElem?_cons_zero, List.getElem?_cons_succ, Option.some.injEq, exists_eq_left', List.set_cons_zero, List.set_cons_succ, c_gt, c_lt, c_le, c_ge, c_eq, c_ne, t_bl, t_int, n_add, n_sub, n_mul, n_mod, n_fdiv, n_pow, n_neg, ix_lst, ix_tup, decide_eq_true_eq, decide_eq_false_iff_not, ws_nil]
  refine ⟨fun _ => ⟨fun _ => ?_, fun _ => hn _ _ _ (S.mono (by omega) (by omega))⟩, fun h => ⟨fun z => absurd z h, fun _ => hn _ _ _ (S.mono (by omega) (by omega))⟩⟩
  rw [ws_cons]
  simp only [ws_ife, ws_set, ws_sub, ws_ret_, ws_expr, ws_pass, ws_retn, ws_brk, ws_cnt, x_cmp, x_cmp2, x_ix, x_int, x_bl, x_str, x_non, x_npart, x_bin, x_neg, x_not, x_and, x_or, x_ife, x_lst, x_tup, x_call, x_bi, x_thaw, x_glob, ws_nilE, ws_consE, y_var, List.getElem?_cons_zero, List.getElem?_cons_succ, Option.some.injEq, exists_eq_left', List.set_cons_zero, List.set_cons_succ, c_gt, c_lt, c_le, c_ge, c_eq, c_ne, t_bl, t_int, n_add, n_sub, n_mul, n_mod, n_fdiv, n_pow, n_neg, ix_lst, ix_tup, decide_eq_true_eq, decide_eq_false_iff_not, ix_cell e, hd]
  rw [ws_cons]
  simp only [ws_ife, ws_set, ws_sub, ws_ret_, ws_expr, ws_pass, ws_retn, ws_brk, ws_cnt, x_cmp, x_cmp2, x_ix, x_int, x_bl, x_str, x_non, x_npart, x_bin, x_neg, x_not, x_and, x_or, x_ife, x_lst, x_tup, x_call, x_bi, x_thaw, x_glob, ws_nilE, ws_consE, y_var, List.getElem?_cons_zero, List.getElem?_cons_succ, Option.some.injEq, exists_eq_left', List.set_cons_zero, List.set_cons_succ, c_gt, c_lt, c_le, c_ge, c_eq, c_ne, t_bl, t_int, n_add, n_sub, n_mul, n_mod, n_fdiv, n_pow, n_neg, ix_lst, ix_tup, decide_eq_true_eq, decide_eq_false_iff_not]
  refine number D.pick D.number (.inl rfl) S.dk (by omega) fun sh μ1 _ _ s1 d1 f1 => ?_
  have s1 := s1 rfl
  have S1 := S.step hl f1 d1
  simp only [ws_ife, ws_set, ws_sub, ws_ret_, ws_expr, ws_pass, ws_retn, ws_brk, ws_cnt, x_cmp, x_cmp2, x_ix, x_int, x_bl, x_str, x_non, x_npart, x_bin, x_neg, x_not, x_and, x_or, x_ife, x_lst, x_tup, x_call, x_bi, x_thaw, x_glob, ws_nilE, ws_consE, y_var, List.getElem?_cons_zero, List.getElem?_cons_succ, Option.some.injEq, exists_eq_left', List.set_cons_zero, List.set_cons_succ, c_gt, c_lt, c_le, c_ge, c_eq, c_ne, t_bl, t_int, n_add, n_sub, n_mul, n_mod, n_fdiv, n_pow, n_neg, ix_lst, ix_tup, decide_eq_true_eq, decide_eq_false_iff_not]
  rw [ws_cons]
  obtain ⟨ds2, g, g2, g3⟩ := S1.rws
  have same : ds2 = ds := by
    have := f1.at_ (μ0.length + many) (by omega)
    rw [g, e] at this
    cases this; rfl
  subst same
  obtain ⟨xs, h1, q, _⟩ := g3 d hm
  obtain ⟨s, hs1, hs2, hs3⟩ := src_of h1
  have hs := srcIt_of h1 hs1
  simp only [ws_ife, ws_set, ws_sub, ws_ret_, ws_expr, ws_pass, ws_retn, ws_brk, ws_cnt, x_cmp, x_cmp2, x_ix, x_int, x_bl, x_str, x_non, x_npart, x_bin, x_neg, x_not, x_and, x_or, x_ife, x_lst, x_tup, x_call, x_bi, x_thaw, x_glob, ws_nilE, ws_consE, y_var, List.getElem?_cons_zero, List.getElem?_cons_succ, Option.some.injEq, exists_eq_left', List.set_cons_zero, List.set_cons_succ, c_gt, c_lt, c_le, c_ge, c_eq, c_ne, t_bl, t_int, n_add, n_sub, n_mul, n_mod, n_fdiv, n_pow, n_neg, ix_lst, ix_tup, decide_eq_true_eq, decide_eq_false_iff_not, x_lc, i_exD, hs, ws_nil]
  have hb2 : sh.natAbs < 2 ^ 2 := by omega
  refine wp_lcInts (C := B + 3) q (by omega) hs2 hs3 (fun x hx => ?_) fun ys hy => ?_
  · simp only [ws_ife, ws_set, ws_sub, ws_ret_, ws_expr, ws_pass, ws_retn, ws_brk, ws_cnt, x_cmp, x_cmp2, x_ix, x_int, x_bl, x_str, x_non, x_npart, x_bin, x_neg, x_not, x_and, x_or, x_ife, x_lst, x_tup, x_call, x_bi, x_thaw, x_glob, ws_nilE, ws_consE, y_var, List.getElem?_cons_zero, List.getElem?_cons_succ, Option.some.injEq, exists_eq_left', List.set_cons_zero, List.set_cons_succ, c_gt, c_lt, c_le, c_ge, c_eq, c_ne, t_bl, t_int, n_add, n_sub, n_mul, n_mod, n_fdiv, n_pow, n_neg, ix_lst, ix_tup, decide_eq_true_eq, decide_eq_false_iff_not, lc_name, wipe1, Bool.true_eq_false, false_implies, and_true, true_implies, true_and]
    refine ⟨lgm hb2 hx (by omega), _, rfl, powM (mulB hb2 hx) (by omega)⟩
  · obtain ⟨μ', h2, h3⟩ := (S1.mono (Nat.le_refl _) (by omega : B ≤ B + 3)).putS hl hb hy a0 a1
    simp only [ws_ife, ws_set, ws_sub, ws_ret_, ws_expr, ws_pass, ws_retn, ws_brk, ws_cnt, x_cmp, x_cmp2, x_ix, x_int, x_bl, x_str, x_non, x_npart, x_bin, x_neg, x_not, x_and, x_or, x_ife, x_lst, x_tup, x_call, x_bi, x_thaw, x_glob, ws_nilE, ws_consE, y_var, List.getElem?_cons_zero, List.getElem?_cons_succ, Option.some.injEq, exists_eq_left', List.set_cons_zero, List.set_cons_succ, c_gt, c_lt, c_le, c_ge, c_eq, c_ne, t_bl, t_int, n_add, n_sub, n_mul, n_mod, n_fdiv, n_pow, n_neg, ix_lst, ix_tup, decide_eq_true_eq, decide_eq_false_iff_not, h2]
    exact hn _ _ _ (h3.mono (by omega) (Nat.le_refl _))
end
section
variable {many long : Nat} {Nn Bk Ct : Ev → Sto → Prop} {X : Exc → Ev → Sto → Prop} {μ0 : Sto} {Q : VM.D × Nat → Sto → Prop}
theorem rows_t8 (D : Dr P) (hm1 : 1 ≤ many) (hm2 : many ≤ 12) (hl2 : long ≤ 20) (hl : l < μ0.length) (hb : b ≤ μ0.length + many) {B : Nat} (hB : B < 190) {way size at_ : Int} {o5 o6 o8 o9 o10 o12 o13 : Option VM.D} (S : St2 μ0 μ l N many long B) (hN : N ≤ 900000) (a0 : 0 ≤ at_) (a1 : at_ < many)
    (k : ∀ d f μ', RowsR 200 many long d → Dk μ' l (N + 1) → Fr μ0 μ' l → Q (d, f) μ') :
    Ws (runSs (tb P (n + 2)) b (.cons s__law_rows_8 (.cons s__law_rows_9 .nil)) (ev3 l (μ0.length + many) many long way size o5 o6 o8 o9 o10 (some (.int at_)) o12 o13) μ) Nn (fun d f μ' => ∃ x, frzTop μ0.length d f μ' = some x ∧ Q x (μ'.take μ0.length)) Bk Ct X := by
  rw [ws_cons]
  refine rows_8 D hm1 hm2 hl2 hl hb (by omega) S hN a0 a1 fun o9 o12 μ8 S8 => ?_
  unfold s__law_rows_9
  simp only [ev3, ws_cons, ws_nil, ws_ife, ws_set, ws_sub, ws_ret_, ws_expr, ws_pass, ws_retn, ws_brk, ws_cnt, x_cmp, x_cmp2, x_ix, x_int, x_bl, x_str, x_non, x_npart, x_bin, x_neg, x_not, x_and, x_or, x_ife, x_lst, x_tup, x_call, x_bi, x_thaw, x_glob, ws_nilE, ws_consE, y_var, List.getElem?_cons_zero, List.getElem?_cons_succ, Option.some.injEq, exists_eq_left', List.set_cons_zero, List.set_cons_succ, c_gt, c_lt, c_le, c_ge, c_eq, c_ne, t_bl, t_int, n_add, n_sub, n_mul, n_mod, n_fdiv, n_pow, n_neg, ix_lst, ix_tup, decide_eq_true_eq, decide_eq_false_iff_not]
  obtain ⟨d, f, h1, ⟨rs, e, e2, e3⟩, h3, h4⟩ := S8.out hl
  exact ⟨_, h1, k _ _ _ ⟨rs, e, e2, fun r hr => ⟨(e3 r hr).1, fun x hx => powM ((e3 r hr).2 x hx) (by omega)⟩⟩ h3 h4⟩
theorem rows_t6 (D : Dr P) (hm1 : 1 ≤ many) (hm2 : many ≤ 12) (hl2 : long ≤ 20) (hl : l < μ0.length) (hb : b ≤ μ0.length + many) {B : Nat} (hB : B < 90) {way size at_ : Int} {o5 o6 o8 o9 o10 o12 o13 : Option VM.D} (S : St2 μ0 μ l N many long B) (hN : N ≤ 800000) (a0 : 0 ≤ at_) (a1 : at_ < many)
    (k : ∀ d f μ', RowsR 200 many long d → Dk μ' l (N + 2 + 100 + 1) → Fr μ0 μ' l → Q (d, f) μ') :
    Ws (runSs (tb P (n + 2)) b (.cons s__law_rows_6 (.cons s__law_rows_7 (.cons s__law_rows_8 (.cons s__law_rows_9 .nil)))) (ev3 l (μ0.length + many) many long way size o5 o6 o8 o9 o10 (some (.int at_)) o12 o13) μ) Nn (fun d f μ' => ∃ x, frzTop μ0.length d f μ' = some x ∧ Q x (μ'.take μ0.length)) Bk Ct X := by
  rw [ws_cons]
  refine rows_6 D hm1 hm2 hl2 hl hb (by omega) S (by omega) a0 a1 fun o9 μ6 S6 => ?_
  rw [ws_cons]
  refine rows_7 D hm1 hm2 hl2 hl hb (by omega) S6 (by omega) fun o5 o6 o8 o9 μ7 S7 => ?_
  exact rows_t8 D hm1 hm2 hl2 hl hb (by omega) S7 (by omega) a0 a1 k
theorem rows_t3 (D : Dr P) (hm1 : 1 ≤ many) (hm2 : many ≤ 12) (hl1 : 1 ≤ long) (hl2 : long ≤ 20) (hl : l < μ0.length) (hb : b ≤ μ0.length + many) {way size : Int} (f12 : Fr μ0 μ l) (d2 : Dk μ l N) (hN : N ≤ 800000 - 200)
    (k : ∀ d f μ', RowsR 200 many long d → Dk μ' l (N + 40 + 1 + 2 + 100 + 1) → Fr μ0 μ' l → Q (d, f) μ') :
    Ws (runSs (tb P (n + 2)) b (.cons s__law_rows_3 (.cons s__law_rows_4 (.cons s__law_rows_5 (.cons s__law_rows_6 (.cons s__law_rows_7 (.cons s__law_rows_8 (.cons s__law_rows_9 .nil))))))) (ev2 l many long way size) μ) Nn (fun d f μ' => ∃ x, frzTop μ0.length d f μ' = some x ∧ Q x (μ'.take μ0.length)) Bk Ct X := by
  rw [ws_cons]
  refine rows_3 (by omega) hl2 f12 d2 fun μ3 S3 => ?_
  rw [ws_cons]
  refine rows_4 D (by omega) hl1 hl2 hl S3 (by omega) fun o5 o6 o8 o9 o10 μ4 S4 => ?_
  rw [ws_cons]
  refine rows_5 D hm1 hm2 hl (S4.two (B := 81) fun _ _ => Nat.le_refl _) (by omega) fun at_ μ5 a0 a1 S5 => ?_
  exact rows_t6 D hm1 hm2 hl2 hl hb (by omega) S5 (by omega) a0 a1 k
end
/-- DRAWN ROWS -/
theorem rows (D : Dr P) {Q : VM.D × Nat → Sto → Prop} {many long : Nat} (hm1 : 1 ≤ many) (hm2 : many ≤ 12) (hl1 : 1 ≤ long) (hl2 : long ≤ 20) (hd : Dk μ l N) (hN : N ≤ 700000)
    (k : ∀ d f μ', RowsR 200 many long d → Dk μ' l (N + 500) → Fr μ μ' l → Q (d, f) μ') : Wp ((tb P (n + 3)).call "_law_rows" b [.cell l, .int many, .int long] μ) Q E := by
  have hl := hd.lt
  refine (wp_call D.rows).mpr ((wp_run (by rfl)).mpr ?_)
  unfold b__law_rows s__law_rows_0 s__law_rows_1
  simp only [List.map_cons, List.map_nil, List.replicate, List.cons_append, List.nil_append]
  rw [ws_cons]
  simp only [ws_ife, ws_set, ws_sub, ws_ret_, ws_expr, ws_pass, ws_retn, ws_brk, ws_cnt, x_cmp, x_cmp2, x_ix, x_int, x_bl, x_str, x_non, x_npart, x_bin, x_neg, x_not, x_and, x_or, x_ife, x_lst, x_tup, x_call, x_bi, x_thaw, x_glob, ws_nilE, ws_consE, y_var, List.getElem?_cons_zero, List.getElem?_cons_succ, Option.some.injEq, exists_eq_left', List.set_cons_zero, List.set_cons_succ, c_gt, c_lt, c_le, c_ge, c_eq, c_ne, t_bl, t_int, n_add, n_sub, n_mul, n_mod, n_fdiv, n_pow, n_neg, ix_lst, ix_tup, decide_eq_true_eq, decide_eq_false_iff_not]
  refine pick D.pick hd (by omega) (by decide) (by decide) fun way μ1 w0 w1 d1 f1 => ?_
  simp only [ws_ife, ws_set, ws_sub, ws_ret_, ws_expr, ws_pass, ws_retn, ws_brk, ws_cnt, x_cmp, x_cmp2, x_ix, x_int, x_bl, x_str, x_non, x_npart, x_bin, x_neg, x_not, x_and, x_or, x_ife, x_lst, x_tup, x_call, x_bi, x_thaw, x_glob, ws_nilE, ws_consE, y_var, List.getElem?_cons_zero, List.getElem?_cons_succ, Option.some.injEq, exists_eq_left', List.set_cons_zero, List.set_cons_succ, c_gt, c_lt, c_le, c_ge, c_eq, c_ne, t_bl, t_int, n_add, n_sub, n_mul, n_mod, n_fdiv, n_pow, n_neg, ix_lst, ix_tup, decide_eq_true_eq, decide_eq_false_iff_not]
  rw [ws_cons]
  simp only [ws_ife, ws_set, ws_sub, ws_ret_, ws_expr, ws_pass, ws_retn, ws_brk, ws_cnt, x_cmp, x_cmp2, x_ix, x_int, x_bl, x_str, x_non, x_npart, x_bin, x_neg, x_not, x_and, x_or, x_ife, x_lst, x_tup, x_call, x_bi, x_thaw, x_glob, ws_nilE, ws_consE, y_var, List.getElem?_cons_zero, List.getElem?_cons_succ, Option.some.injEq, exists_eq_left', List.set_cons_zero, List.set_cons_succ, c_gt, c_lt, c_le, c_ge, c_eq, c_ne, t_bl, t_int, n_add, n_sub, n_mul, n_mod, n_fdiv, n_pow, n_neg, ix_lst, ix_tup, decide_eq_true_eq, decide_eq_false_iff_not, List.length_cons, List.length_nil]
  refine ⟨by decide, pick D.pick d1 (by omega) (by decide) (by decide) fun sz μ2 s0 s1 d2 f2 => ?_⟩
  have hsz : ∃ size : Int, atI [VM.D.int 0, VM.D.int 0, VM.D.int 1, VM.D.int 2] sz = some (.int size) ∧ (size = 0 ∨ size = 1 ∨ size = 2) := by
    have : sz = 0 ∨ sz = 1 ∨ sz = 2 ∨ sz = 3 := by omega
    rcases this with rfl | rfl | rfl | rfl
    · exact ⟨0, at0, .inl rfl⟩
    · exact ⟨0, at1, .inl rfl⟩
    · exact ⟨1, at2, .inr (.inl rfl)⟩
    · exact ⟨2, by rfl, .inr (.inr rfl)⟩
  obtain ⟨size, hsz, hsize⟩ := hsz
  simp only [ws_ife, ws_set, ws_sub, ws_ret_, ws_expr, ws_pass, ws_retn, ws_brk, ws_cnt, x_cmp, x_cmp2, x_ix, x_int, x_bl, x_str, x_non, x_npart, x_bin, x_neg, x_not, x_and, x_or, x_ife, x_lst, x_tup, x_call, x_bi, x_thaw, x_glob, ws_nilE, ws_consE, y_var, List.getElem?_cons_zero, List.getElem?_cons_succ, Option.some.injEq, exists_eq_left', List.set_cons_zero, List.set_cons_succ, c_gt, c_lt, c_le, c_ge, c_eq, c_ne, t_bl, t_int, n_add, n_sub, n_mul, n_mod, n_fdiv, n_pow, n_neg, ix_lst, ix_tup, decide_eq_true_eq, decide_eq_false_iff_not, hsz]
  have f12 := f1.trans f2
  rw [ws_cons]
  refine rows_2 D (by omega) hl2 hsize f12 d2 (by omega) ?_ fun d f μ' hr dk fr => ?_
  · exact rows_t3 D hm1 hm2 hl1 hl2 hl (by omega) f12 d2 (by omega) fun d f μ' h1 h2 h3 => k d f μ' h1 (h2.mono (by omega)) h3
  · obtain ⟨rs, rfl, e2, e3⟩ := hr
    rw [fr.take, f_rows]
    exact ⟨_, rfl, k _ _ _ ⟨rs, rfl, e2, fun r hr => ⟨(e3 r hr).1, fun x hx => powM ((e3 r hr).2 x hx) (by decide)⟩⟩ (dk.mono (by omega)) fr⟩
end VM

set_option Elab.async false
set_option maxRecDepth 10000
set_option autoImplicit false
set_option linter.unusedVariables false
set_option linter.unusedSimpArgs false
/-! plain things: depth, length of text -/
namespace VM
open PySem L2
inductive Pl : Nat → Nat → D → Prop
  | non {k w : Nat} : 4 ≤ w → Pl k w .non
  | bl {k w : Nat} (b : Bool) : 5 ≤ w → Pl k w (.bl b)
  | int {k w : Nat} (i : Int) : i.natAbs < 10 ^ 61 → 64 ≤ w → Pl k w (.int i)
  | str {k w : Nat} (s : Str) : s.cps.all (· < 0x110000) = true → 10 * s.length + 2 ≤ w → Pl k w (.str s)
  | lst {k w wi : Nat} (xs : List D) : (∀ d ∈ xs, Pl k wi d) → xs.length * (wi + 2) + 3 ≤ w → Pl (k + 1) w (.lst xs)
  | tup {k w wi : Nat} (xs : List D) : (∀ d ∈ xs, Pl k wi d) → xs.length * (wi + 2) + 3 ≤ w → Pl (k + 1) w (.tup xs)
theorem Pl.mono : ∀ {k w : Nat} {d : D}, Pl k w d → ∀ {k' w' : Nat}, k ≤ k' → w ≤ w' → Pl k' w' d
  | _, _, _, .non h, _, _, _, hw => .non (by omega)
  | _, _, _, .bl b h, _, _, _, hw => .bl b (by omega)
  | _, _, _, .int i h h2, _, _, _, hw => .int i h (by omega)
  | _, _, _, .str s h h2, _, _, _, hw => .str s h (by omega)
  | _, _, _, .lst xs h h2, 0, _, hk, hw => by omega
  | _, _, _, .lst xs h h2, k' + 1, _, hk, hw => .lst xs (fun d hd => (h d hd).mono (by omega) (Nat.le_refl _)) (by omega)
  | _, _, _, .tup xs h h2, 0, _, hk, hw => by omega
  | _, _, _, .tup xs h h2, k' + 1, _, hk, hw => .tup xs (fun d hd => (h d hd).mono (by omega) (Nat.le_refl _)) (by omega)
theorem Pl.frz {n : Nat} {μ : Sto} : ∀ {k w : Nat} {d : D}, Pl k w d → ∀ {j : Nat}, k < j → frz n μ j d = some d
  | _, _, _, .non h, _ + 1, _ => rfl
  | _, _, _, .bl b h, _ + 1, _ => rfl
  | _, _, _, .int i h h2, _ + 1, _ => rfl
  | _, _, _, .str s h h2, _ + 1, _ => rfl
  | _, _, _, .lst xs h h2, j + 1, hj => by
    show (xs.mapM (VM.frz n μ j)).map D.lst = _
    rw [mapM_of (g := id) (fun x hx => (h x hx).frz (by omega)), List.map_id]; rfl
  | _, _, _, .tup xs h h2, j + 1, hj => by
    show (xs.mapM (VM.frz n μ j)).map D.tup = _
    rw [mapM_of (g := id) (fun x hx => (h x hx).frz (by omega)), List.map_id]; rfl
theorem Pl.top {n f : Nat} {μ : Sto} {k w : Nat} {d : D} (h : Pl k w d) (hk : k < 9) : frzTop n d f μ = some (d, f) := by
  have e := h.frz (n := n) (μ := μ) hk
  cases h with
  | non => rfl
  | bl b => rfl
  | int i => rfl
  | str s => rfl
  | lst xs => show (VM.frz n μ 9 (.lst xs)).map _ = _; rw [e]; rfl
  | tup xs => show (VM.frz n μ 9 (.tup xs)).map _ = _; rw [e]; rfl
structure Shw (k w : Nat) (p : PyData) : Prop where
  len : p.shown.length ≤ w
  show_ : p.showable = true
  lay : p.canLay0 = true
  dep : p.depth ≤ k
theorem allShw {k w : Nat} {n : Nat} : ∀ {xs : List D}, (∀ d ∈ xs, ∃ p, (∀ μ, toPy μ n d = some p) ∧ Shw k w p) → ∃ ps, (∀ μ, xs.mapM (toPy μ n) = some ps) ∧ ps.length = xs.length ∧ ((PyData.shownAll ps).map (·.length)).sum ≤ xs.length * w ∧ (PyData.shownAll ps).length = xs.length ∧ PyData.showableAll ps = true ∧ PyData.canLayAll0 ps = true ∧ PyData.depthAll ps ≤ k
  | [], _ => ⟨[], fun _ => (by simp), rfl, by simp [PyData.shownAll], by simp [PyData.shownAll], by simp [PyData.showableAll], by simp [PyData.canLayAll0], by simp [PyData.depthAll]⟩
  | x :: xs, h => by
    obtain ⟨p, h1, h2⟩ := h x List.mem_cons_self
    obtain ⟨ps, g1, g2, g3, g4, g5, g6, g7⟩ := allShw fun d hd => h d (List.mem_cons_of_mem _ hd)
    refine ⟨p :: ps, fun μ => (by rw [List.mapM_cons, h1, g1]; rfl), by simp [g2], ?_, by simp [PyData.shownAll, g4], by simp [PyData.showableAll, h2.show_, g5], by simp [PyData.canLayAll0, h2.lay, g6], ?_⟩
    · simp only [PyData.shownAll, List.map_cons, List.sum_cons, List.length_cons]
      have := h2.len
      rw [Nat.succ_mul]; omega
    · unfold PyData.depthAll
      exact Nat.max_le.mpr ⟨h2.dep, g7⟩
theorem Pl.py : ∀ {k w : Nat} {d : D}, Pl k w d → ∀ {n : Nat}, k < n → ∃ p, (∀ μ, toPy μ n d = some p) ∧ Shw k w p
  | _, _, _, .non h, n + 1, _ => ⟨.none, fun _ => rfl, by show 4 ≤ _; exact h, by simp [PyData.showable], by simp [PyData.canLay0], by simp [PyData.depth]⟩
  | _, _, _, .bl b h, n + 1, _ => ⟨.bool b, fun _ => rfl, by cases b <;> (show _ ≤ _; first | exact h | exact Nat.le_trans (by decide) h), by simp [PyData.showable], by simp [PyData.canLay0], by simp [PyData.depth]⟩
  | _, _, _, .int i h h2, n + 1, _ => by
    refine ⟨.int i, fun _ => rfl, ?_, ?_, by simp [PyData.canLay0], by simp [PyData.depth]⟩
    · have e := int_text_length_le10 (k := 61) (by decide) h
      show (Str.ofString (toString i)).length ≤ _
      rw [ofString_length]; omega
    · simp only [PyData.showable, decide_eq_true_eq]
      exact Nat.lt_of_le_of_lt (lg (p := 204) (Nat.lt_trans h (by decide))) (by decide)
  | _, _, _, .str s h h2, n + 1, _ => by
    have h1 : ∀ c ∈ s.cps.toList, c < 0x110000 := by
      intro c hc
      have := (Array.all_eq_true_iff_forall_mem.mp h) c (Array.mem_toList_iff.mp hc)
      simpa using this
    refine ⟨.str s, fun _ => rfl, ?_, by simp [PyData.showable], ?_, by simp [PyData.depth]⟩
    · have := StrLaws.reprText_len s fun c hc => Nat.lt_trans (h1 c hc) (by decide)
      show (reprText s).length ≤ _
      omega
    · simpa only [PyData.canLay0, PyData.strOk] using h
  | _, _, _, .lst (wi := wi) xs h h2, n + 1, hn => by
    obtain ⟨ps, g1, g2, g3, g4, g5, g6, g7⟩ := allShw (n := n) fun d hd => (h d hd).py (n := n) (by omega)
    refine ⟨.list ps, fun μ => by show (xs.mapM (toPy μ n)).map PyData.list = _; rw [g1]; rfl, ?_, by simp only [PyData.showable]; exact g5, by simp only [PyData.canLay0]; exact g6, by simp only [PyData.depth]; omega⟩
    have := listText_len_le (PyData.shownAll ps)
    show (listText (PyData.shownAll ps)).length ≤ _
    rw [Nat.mul_add] at h2
    omega
  | _, _, _, .tup (wi := wi) xs h h2, n + 1, hn => by
    obtain ⟨ps, g1, g2, g3, g4, g5, g6, g7⟩ := allShw (n := n) fun d hd => (h d hd).py (n := n) (by omega)
    refine ⟨.tuple ps, fun μ => by show (xs.mapM (toPy μ n)).map PyData.tuple = _; rw [g1]; rfl, ?_, by simp only [PyData.showable]; exact g5, by simp only [PyData.canLay0]; exact g6, by simp only [PyData.depth]; omega⟩
    have := tupleText_len_le (PyData.shownAll ps)
    show (tupleText (PyData.shownAll ps)).length ≤ _
    rw [Nat.mul_add] at h2
    omega
/-- rows are plain -/
theorem RowsR.plain {B many long : Nat} {d : D} (h : RowsR B many long d) (hB : B ≤ 200) : Pl 2 (many * (long * 66 + 3 + 2) + 3) d := by
  obtain ⟨rs, rfl, rfl, h⟩ := h
  refine .lst (wi := long * 66 + 3) _ (fun d hd => ?_) (by simp)
  obtain ⟨r, hr, rfl⟩ := List.mem_map.mp hd
  obtain ⟨rfl, hx⟩ := h r hr
  refine .lst (wi := 64) _ (fun e he => ?_) (by simp)
  obtain ⟨x, hx2, rfl⟩ := List.mem_map.mp he
  exact .int x (Nat.lt_trans (powM (hx x hx2) hB) (by decide)) (by decide)
/-- the text of a list or a tuple, twice the same -/
theorem Pl.text {k w : Nat} {d : D} (h : Pl k w d) (hk : k < 9) (hw : w ≤ 16000000) : ∃ s : Str, ∀ ν : Sto, strA [d] ν = .ok (.str s, 0) ν := by
  obtain ⟨p, e, q⟩ := h.py hk
  have hz : p.shown.length ≤ sizeLine := by have := q.len; rw [sizeLine_eq]; omega
  cases h with
  | non => exact ⟨_, fun ν => rfl⟩
  | bl b => exact ⟨_, fun ν => rfl⟩
  | int i h1 h2 =>
    refine ⟨toString i, fun ν => ?_⟩
    show (if i.natAbs.log2 < 1920 then R.ok (D.str (toString i), 0) ν else .bad) = _
    rw [if_pos (Nat.lt_of_le_of_lt (lg (p := 204) (Nat.lt_trans h1 (by decide))) (by decide))]
  | str s => exact ⟨_, fun ν => rfl⟩
  | lst xs h1 h2 =>
    have e0 : (xs.mapM (toPy [] 8)).map PyData.list = some p := e []
    obtain ⟨ps, _, rfl⟩ := map_some e0
    exact ⟨_, fun ν => by unfold strA; simp only [e]; rw [if_pos ⟨q.show_, hz⟩]⟩
  | tup xs h1 h2 =>
    have e0 : (xs.mapM (toPy [] 8)).map PyData.tuple = some p := e []
    obtain ⟨ps, _, rfl⟩ := map_some e0
    exact ⟨_, fun ν => by unfold strA; simp only [e]; rw [if_pos ⟨q.show_, hz⟩]⟩
end VM

set_option Elab.async false
set_option maxRecDepth 100000
namespace Law
open PySem PySem.Spec PyProof.Rows L2 VM
def top (i : Nat) : Stmt := PySem.Challenge.pw_oneworth_k01_rows.main.body.getD i (.Pass ⟨0, 0, 0, 0⟩)
abbrev d_is_whole : DI := ⟨"is_whole", top 2, ["thing"], ["thing"], false, []⟩
abbrev d_is_row : DI := ⟨"is_row", top 3, ["thing", "number"], ["thing"], false, []⟩
abbrev d_are_rows : DI := ⟨"are_rows", top 4, ["thing", "row"], ["thing"], false, []⟩
abbrev d__law_deck : DI := ⟨"_law_deck", top 6, ["cell", "turn"], ["cell", "turn"], false, []⟩
abbrev d__law_pick : DI := ⟨"_law_pick", top 7, ["deck", "many", "found", "number"], ["deck", "many"], false, []⟩
abbrev d__law_number : DI := ⟨"_law_number", top 8, ["deck", "way", "far"], ["deck", "way"], false, []⟩
abbrev d__law_rows : DI := ⟨"_law_rows", top 9, ["deck", "many", "long", "way", "size", "i", "j", "rows", "turn", "share", "row", "at", "other", "one"], ["deck", "many", "long"], false, [(35, 11, 68), (35, 12, 46)]⟩
abbrev d__law_size : DI := ⟨"_law_size", top 10, ["deck", "long"], ["deck"], false, []⟩
abbrev d__law_whole : DI := ⟨"_law_whole", top 11, ["thing"], ["thing"], false, []⟩
abbrev d__law_thing : DI := ⟨"_law_thing", top 12, ["deck", "deep", "kind", "far", "some", "k"], ["deck", "deep"], false, []⟩
abbrev d__law_are_rows : DI := ⟨"_law_are_rows", top 13, ["thing", "row", "one"], ["thing"], false, []⟩
abbrev d__law_bent : DI := ⟨"_law_bent", top 14, ["deck", "rows", "row", "found", "turn", "at", "kind", "place", "one"], ["deck", "rows"], false, [(81, 12, 39), (81, 13, 22), (90, 47, 49), (90, 59, 72), (90, 74, 85), (92, 20, 72), (92, 29, 42), (94, 20, 92), (94, 21, 40)]⟩
abbrev d_law : DI := ⟨"law", top 15, ["script", "cell", "deck", "many", "long", "rows", "thing", "text", "turn", "found"], ["script"], false, [(100, 15, 33)]⟩
abbrev tab : List DI := [d_is_whole, d_is_row, d_are_rows, d__law_deck, d__law_pick, d__law_number, d__law_rows, d__law_size, d__law_whole, d__law_thing, d__law_are_rows, d__law_bent]
def glb : List (Str × D) := [("MOST", .int 6), ("int", .ty "int"), ("bool", .ty "bool"), ("list", .ty "list"), ("str", .ty "str"), ("tuple", .ty "tuple")]
def glob (x : Str) : Option D := glb.lookup x
noncomputable abbrev P : Pg := pgOf tab glob
def s_is_whole_0 : VM.S := (.ret (.and (.bi "isinstance" (.cons (.var 0) (.cons (.glob "int") .nil))) (.not (.bi "isinstance" (.cons (.var 0) (.cons (.glob "bool") .nil))))))
def b_is_whole : Ss := (.cons s_is_whole_0 .nil)
def f_is_whole : Fn := ⟨1, 1, false, b_is_whole⟩
def s_is_row_0 : VM.S := (.ret (.and (.bi "isinstance" (.cons (.var 0) (.cons (.glob "list") .nil))) (.and (.cmp2 .LtE .LtE (.int 1) (.bi "len" (.cons (.var 0) .nil)) (.glob "MOST")) (.bi "all" (.cons (.lc (.call "is_whole" (.cons (.var 1) .nil)) (.name 1) (.ex (.var 0)) (.bl true) [1]) .nil)))))
def b_is_row : Ss := (.cons s_is_row_0 .nil)
def f_is_row : Fn := ⟨1, 2, false, b_is_row⟩
def s_are_rows_0 : VM.S := (.ife (.or (.not (.bi "isinstance" (.cons (.var 0) (.cons (.glob "list") .nil)))) (.or (.not (.cmp2 .LtE .LtE (.int 1) (.bi "len" (.cons (.var 0) .nil)) (.glob "MOST"))) (.not (.bi "all" (.cons (.lc (.call "is_row" (.cons (.var 1) .nil)) (.name 1) (.ex (.var 0)) (.bl true) [1]) .nil))))) (.cons (.ret (.bl false))
  .nil) .nil)
def s_are_rows_1 : VM.S := (.ret (.bi "all" (.cons (.lc (.cmp .Eq (.bi "len" (.cons (.var 1) .nil)) (.bi "len" (.cons (.ix (.var 0) (.int 0)) .nil))) (.name 1) (.ex (.var 0)) (.bl true) [1]) .nil)))
def b_are_rows : Ss := (.cons s_are_rows_0 (.cons s_are_rows_1 .nil))
def f_are_rows : Fn := ⟨1, 2, false, b_are_rows⟩
def s__law_size_0 : VM.S := (.set (.name 1) (.bin .Add (.int 1) (.call "_law_pick" (.cons (.var 0) (.cons (.int 6) .nil)))))
def s__law_size_1 : VM.S := (.ret (.tup (.cons (.bin .Add (.int 1) (.call "_law_pick" (.cons (.var 0) (.cons (.var 1) .nil)))) (.cons (.var 1) .nil))))
def b__law_size : Ss := (.cons s__law_size_0 (.cons s__law_size_1 .nil))
def f__law_size : Fn := ⟨1, 2, false, b__law_size⟩
def s__law_whole_0 : VM.S := (.ret (.and (.bi "isinstance" (.cons (.var 0) (.cons (.glob "int") .nil))) (.not (.bi "isinstance" (.cons (.var 0) (.cons (.glob "bool") .nil))))))
def b__law_whole : Ss := (.cons s__law_whole_0 .nil)
def f__law_whole : Fn := ⟨1, 1, false, b__law_whole⟩
def s__law_thing_0 : VM.S := (.set (.name 2) (.call "_law_pick" (.cons (.var 0) (.cons (.int 12) .nil))))
def s__law_thing_1 : VM.S := (.set (.name 3) (.ix (.lst (.cons (.bin .Sub (.call "_law_pick" (.cons (.var 0) (.cons (.int 18) .nil))) (.int 1)) (.cons (.bin .Sub (.call "_law_pick" (.cons (.var 0) (.cons (.bin .Pow (.int 10) (.int 13)) .nil))) (.bin .Pow (.int 10) (.int 12))) (.cons (.bin .Sub (.int 0) (.bin .Pow (.int 10) (.int 59))) .nil)))) (.call "_law_pick" (.cons (.var 0) (.cons (.int 3) .nil)))))
def s__law_thing_2 : VM.S := (.ife (.cmp .Lt (.var 2) (.int 4)) (.cons (.ret (.var 3))
  .nil) .nil)
def s__law_thing_3 : VM.S := (.ife (.cmp .Lt (.var 2) (.int 7)) (.cons (.ret (.ix (.lst (.cons (.bl true) (.cons (.bl false) (.cons .non .nil)))) (.bin .Sub (.var 2) (.int 4))))
  .nil) .nil)
def s__law_thing_4 : VM.S := (.ife (.cmp .Lt (.var 2) (.int 9)) (.cons (.ret (.ix (.lst (.cons (.str "") (.cons (.str "4") (.cons (.str "none") (.cons (.str "(4, 2)") (.cons (.str "-1") (.cons (.str ".") .nil))))))) (.call "_law_pick" (.cons (.var 0) (.cons (.int 6) .nil)))))
  .nil) .nil)
def s__law_thing_5 : VM.S := (.set (.name 4) (.lc (.call "_law_thing" (.cons (.var 0) (.cons (.bin .Sub (.var 1) (.int 1)) .nil))) (.name 5) (.rng1 (.bin .Mult (.call "_law_pick" (.cons (.var 0) (.cons (.int 4) .nil))) (.bi "int" (.cons (.cmp .Gt (.var 1) (.int 0)) .nil)))) (.bl true) [5]))
def s__law_thing_6 : VM.S := (.ret (.ife (.cmp .Eq (.var 2) (.int 9)) (.var 4) (.bi "tuple" (.cons (.var 4) .nil))))
def b__law_thing : Ss := (.cons s__law_thing_0 (.cons s__law_thing_1 (.cons s__law_thing_2 (.cons s__law_thing_3 (.cons s__law_thing_4 (.cons s__law_thing_5 (.cons s__law_thing_6 .nil)))))))
def f__law_thing : Fn := ⟨2, 6, false, b__law_thing⟩
def s__law_are_rows_0 : VM.S := (.ife (.or (.not (.bi "isinstance" (.cons (.var 0) (.cons (.glob "list") .nil)))) (.not (.cmp2 .Lt .Lt (.int 0) (.bi "len" (.cons (.var 0) .nil)) (.int 7)))) (.cons (.ret (.bl false))
  .nil) .nil)
def s__law_are_rows_1 : VM.S := (.for_ (.name 1) (.ex (.var 0)) (.cons (.ife (.or (.not (.bi "isinstance" (.cons (.var 1) (.cons (.glob "list") .nil)))) (.or (.not (.cmp2 .Lt .Lt (.int 0) (.bi "len" (.cons (.var 1) .nil)) (.int 7))) (.cmp .NotEq (.lc (.var 2) (.name 2) (.ex (.var 1)) (.not (.call "_law_whole" (.cons (.var 2) .nil))) [2]) (.lst .nil)))) (.cons (.ret (.bl false))
  .nil) .nil)
  .nil))
def s__law_are_rows_2 : VM.S := (.ret (.cmp .Eq (.lc (.var 1) (.name 1) (.ex (.var 0)) (.cmp .NotEq (.bi "len" (.cons (.var 1) .nil)) (.bi "len" (.cons (.ix (.var 0) (.int 0)) .nil))) [1]) (.lst .nil)))
def b__law_are_rows : Ss := (.cons s__law_are_rows_0 (.cons s__law_are_rows_1 (.cons s__law_are_rows_2 .nil)))
def f__law_are_rows : Fn := ⟨1, 3, false, b__law_are_rows⟩
def s__law_bent_0 : VM.S := (.set (.name 3) (.thaw (.lc (.thaw (.bi "list" (.cons (.var 2) .nil))) (.name 2) (.ex (.var 1)) (.bl true) [2])))
def s__law_bent_1 : VM.S := (.for_ (.name 4) (.rng1 (.call "_law_pick" (.cons (.var 0) (.cons (.int 3) .nil)))) (.cons (.set (.name 5) (.call "_law_pick" (.cons (.var 0) (.cons (.bi "len" (.cons (.var 3) .nil)) .nil))))
  (.cons (.set (.name 2) (.ix (.var 3) (.var 5)))
  (.cons (.set (.name 6) (.call "_law_pick" (.cons (.var 0) (.cons (.int 9) .nil))))
  (.cons (.ife (.and (.cmp .Lt (.var 6) (.int 4)) (.and (.bi "isinstance" (.cons (.var 2) (.cons (.glob "list") .nil))) (.cmp .NotEq (.var 2) (.lst .nil)))) (.cons (.set (.name 7) (.call "_law_pick" (.cons (.var 0) (.cons (.bi "len" (.cons (.var 2) .nil)) .nil))))
  (.cons (.set (.sub (.var 2) (.var 7)) (.ix (.lst (.cons (.bl true) (.cons .non (.cons (.str "1") (.cons (.tup (.cons (.int 1) .nil)) (.cons (.lst (.cons (.int 1) .nil)) (.cons (.tup (.cons (.int 1) (.cons (.int 2) .nil))) (.cons (.int 0) (.cons (.call "_law_thing" (.cons (.var 0) (.cons (.int 2) .nil))) .nil))))))))) (.call "_law_pick" (.cons (.var 0) (.cons (.int 8) .nil)))))
  .nil)) (.cons (.ife (.cmp .Eq (.var 6) (.int 4)) (.cons (.set (.sub (.var 3) (.var 5)) (.ix (.lst (.cons (.bi "tuple" (.cons (.ix (.var 1) (.int 0)) .nil)) (.cons .non (.cons (.thaw (.lst .nil)) (.cons (.int 5) (.cons (.str "1") (.cons (.thaw (.bin .Add (.ix (.var 1) (.int 0)) (.lst (.cons (.int 1) .nil)))) (.cons (.thaw (.slc (.ix (.var 1) (.int 0)) (.int 1) .npart)) .nil)))))))) (.call "_law_pick" (.cons (.var 0) (.cons (.int 7) .nil)))))
  .nil) (.cons (.ife (.cmp .Eq (.var 6) (.int 5)) (.cons (.set (.name 3) (.thaw (.bin .Add (.var 3) (.bin .Mult (.lst (.cons (.thaw (.bi "list" (.cons (.ix (.var 1) (.int 0)) .nil))) .nil)) (.ix (.lst (.cons (.int 1) (.cons (.int 6) .nil))) (.call "_law_pick" (.cons (.var 0) (.cons (.int 2) .nil))))))))
  .nil) (.cons (.ife (.cmp .Eq (.var 6) (.int 6)) (.cons (.set (.name 3) (.thaw (.lc (.ife (.bi "isinstance" (.cons (.var 8) (.cons (.glob "list") .nil))) (.thaw (.bin .Add (.bi "list" (.cons (.var 8) .nil)) (.bin .Mult (.lst (.cons (.int 1) .nil)) (.int 6)))) (.var 8)) (.name 8) (.ex (.var 3)) (.bl true) [8])))
  .nil) (.cons (.ife (.cmp .Gt (.bi "len" (.cons (.var 3) .nil)) (.int 1)) (.cons (.expr (.bm (.var 3) "pop" (.cons (.var 5) .nil)))
  .nil) .nil)
  .nil))
  .nil))
  .nil))
  .nil))
  .nil)))))
def s__law_bent_2 : VM.S := (.ret (.ix (.lst (.cons (.var 3) (.cons (.bi "tuple" (.cons (.var 3) .nil)) (.cons (.str "1") (.cons (.lst .nil) (.cons (.var 3) .nil)))))) (.bi "max" (.cons (.int 0) (.cons (.bin .Sub (.call "_law_pick" (.cons (.var 0) (.cons (.int 12) .nil))) (.int 7)) .nil)))))
def b__law_bent : Ss := (.cons s__law_bent_0 (.cons s__law_bent_1 (.cons s__law_bent_2 .nil)))
def f__law_bent : Fn := ⟨2, 9, false, b__law_bent⟩
def s_law_0 : VM.S := (.for_ (.name 1) (.ex (.bin .Add (.lst (.cons (.int 0) .nil)) (.slc (.var 0) .npart (.int 6)))) (.cons (.set (.name 2) (.thaw (.call "_law_deck" (.cons (.var 1) (.cons (.int 0) .nil)))))
  (.cons (.set (.tup (.cons (.name 3) (.cons (.name 4) .nil))) (.call "_law_size" (.cons (.var 2) .nil)))
  (.cons (.set (.name 5) (.call "_law_rows" (.cons (.var 2) (.cons (.var 3) (.cons (.var 4) .nil)))))
  (.cons (.for_ (.name 6) (.ex (.lst (.cons (.var 5) (.cons (.call "_law_bent" (.cons (.var 2) (.cons (.var 5) .nil))) (.cons (.call "_law_thing" (.cons (.var 2) (.cons (.int 4) .nil))) .nil))))) (.cons (.set (.name 7) (.bi "str*" (.cons (.var 6) .nil)))
  (.cons (.for_ (.name 8) (.rng1 (.int 2)) (.cons (.set (.name 9) (.call "are_rows" (.cons (.var 6) .nil)))
  (.cons (.ife (.or (.not (.bi "isinstance" (.cons (.var 9) (.cons (.glob "bool") .nil)))) (.or (.cmp .NotEq (.var 9) (.call "_law_are_rows" (.cons (.var 6) .nil))) (.cmp .NotEq (.bi "str*" (.cons (.var 6) .nil)) (.var 7)))) (.cons (.ret (.bl false))
  .nil) .nil)
  .nil)))
  .nil)))
  .nil)))))
def s_law_1 : VM.S := (.ret (.bl true))
def b_law : Ss := (.cons s_law_0 (.cons s_law_1 .nil))
def f_law : Fn := ⟨1, 10, false, b_law⟩
abbrev nms : List Str := tab.map (·.x)
theorem q_is_whole : P.fns "is_whole" = some f_is_whole := by
  show (find tab "is_whole").map (DI.fn nms) = _
  rw [show find tab "is_whole" = some d_is_whole by kernel_rfl]
  show some (DI.fn nms d_is_whole) = _
  rw [show DI.fn nms d_is_whole = f_is_whole by kernel_rfl]
theorem q_is_row : P.fns "is_row" = some f_is_row := by
  show (find tab "is_row").map (DI.fn nms) = _
  rw [show find tab "is_row" = some d_is_row by kernel_rfl]
  show some (DI.fn nms d_is_row) = _
  rw [show DI.fn nms d_is_row = f_is_row by kernel_rfl]
theorem q_are_rows : P.fns "are_rows" = some f_are_rows := by
  show (find tab "are_rows").map (DI.fn nms) = _
  rw [show find tab "are_rows" = some d_are_rows by kernel_rfl]
  show some (DI.fn nms d_are_rows) = _
  rw [show DI.fn nms d_are_rows = f_are_rows by kernel_rfl]
theorem q__law_deck : P.fns "_law_deck" = some f__law_deck := by
  show (find tab "_law_deck").map (DI.fn nms) = _
  rw [show find tab "_law_deck" = some d__law_deck by kernel_rfl]
  show some (DI.fn nms d__law_deck) = _
  rw [show DI.fn nms d__law_deck = f__law_deck by kernel_rfl]
theorem q__law_pick : P.fns "_law_pick" = some f__law_pick := by
  show (find tab "_law_pick").map (DI.fn nms) = _
  rw [show find tab "_law_pick" = some d__law_pick by kernel_rfl]
  show some (DI.fn nms d__law_pick) = _
  rw [show DI.fn nms d__law_pick = f__law_pick by kernel_rfl]
theorem q__law_number : P.fns "_law_number" = some f__law_number := by
  show (find tab "_law_number").map (DI.fn nms) = _
  rw [show find tab "_law_number" = some d__law_number by kernel_rfl]
  show some (DI.fn nms d__law_number) = _
  rw [show DI.fn nms d__law_number = f__law_number by kernel_rfl]
theorem q__law_rows : P.fns "_law_rows" = some f__law_rows := by
  show (find tab "_law_rows").map (DI.fn nms) = _
  rw [show find tab "_law_rows" = some d__law_rows by kernel_rfl]
  show some (DI.fn nms d__law_rows) = _
  rw [show DI.fn nms d__law_rows = f__law_rows by kernel_rfl]
theorem q__law_size : P.fns "_law_size" = some f__law_size := by
  show (find tab "_law_size").map (DI.fn nms) = _
  rw [show find tab "_law_size" = some d__law_size by kernel_rfl]
  show some (DI.fn nms d__law_size) = _
  rw [show DI.fn nms d__law_size = f__law_size by kernel_rfl]
theorem q__law_whole : P.fns "_law_whole" = some f__law_whole := by
  show (find tab "_law_whole").map (DI.fn nms) = _
  rw [show find tab "_law_whole" = some d__law_whole by kernel_rfl]
  show some (DI.fn nms d__law_whole) = _
  rw [show DI.fn nms d__law_whole = f__law_whole by kernel_rfl]
theorem q__law_thing : P.fns "_law_thing" = some f__law_thing := by
  show (find tab "_law_thing").map (DI.fn nms) = _
  rw [show find tab "_law_thing" = some d__law_thing by kernel_rfl]
  show some (DI.fn nms d__law_thing) = _
  rw [show DI.fn nms d__law_thing = f__law_thing by kernel_rfl]
theorem q__law_are_rows : P.fns "_law_are_rows" = some f__law_are_rows := by
  show (find tab "_law_are_rows").map (DI.fn nms) = _
  rw [show find tab "_law_are_rows" = some d__law_are_rows by kernel_rfl]
  show some (DI.fn nms d__law_are_rows) = _
  rw [show DI.fn nms d__law_are_rows = f__law_are_rows by kernel_rfl]
theorem q__law_bent : P.fns "_law_bent" = some f__law_bent := by
  show (find tab "_law_bent").map (DI.fn nms) = _
  rw [show find tab "_law_bent" = some d__law_bent by kernel_rfl]
  show some (DI.fn nms d__law_bent) = _
  rw [show DI.fn nms d__law_bent = f__law_bent by kernel_rfl]
theorem e_law : lawFn nms d_law = f_law := by kernel_rfl
theorem dr : Dr P := ⟨q__law_pick, q__law_number, q__law_rows⟩
end Law

set_option Elab.async false
set_option maxRecDepth 10000
set_option autoImplicit false
set_option linter.unusedVariables false
set_option linter.unusedSimpArgs false
namespace Law
open PySem VM
open L2 (atI ixN)
variable {E : Exc → Sto → Prop} {n b l N : Nat} {μ : Sto} {Q : VM.D × Nat → Sto → Prop}
def Tw : Nat → Nat
  | 0 => 64
  | d + 1 => 3 * (Tw d + 2) + 3
def Kp : Nat → Nat
  | 0 => 8
  | d + 1 => 8 + 3 * Kp d
theorem tw_le : ∀ d, 64 ≤ Tw d
  | 0 => by decide
  | d + 1 => by have := tw_le d; unfold Tw; omega
theorem one {α : Type} {xs : List α} {i : Int} (h0 : 0 ≤ i) (h1 : i < xs.length) : ∃ d, atI xs i = some d ∧ d ∈ xs := at_mem (by omega) h1
def ThingAt (deep : Nat) : Prop := ∀ {E : Exc → Sto → Prop} {n N b l : Nat} {μ : Sto} {Q : VM.D × Nat → Sto → Prop}, Dk μ l N → N + Kp deep ≤ 900000 → (∀ d f μ', Pl (deep + 1) (Tw deep) d → Dk μ' l (N + Kp deep) → Fr μ μ' l → Q (d, f) μ') →
    Wp ((tb P (n + deep + 2)).call "_law_thing" b [.cell l, .int deep] μ) Q E
theorem bi_tuple {xs : List VM.D} : Wp (biD "tuple" [.lst xs] μ) Q E ↔ Q (.tup xs, 0) μ := wp_ok
theorem thing_step (deep : Nat) (h8 : deep < 8) (ih : ∀ d', deep = d' + 1 → ThingAt d') : ThingAt deep := by
    intro E n N b l μ Q hd hN k
    have e2 : n + deep + 2 = (n + deep + 1) + 1 := rfl
    have kp : 8 ≤ Kp deep := by cases deep <;> (unfold Kp; omega)
    have tw := tw_le deep
    rw [e2]
    refine (wp_call q__law_thing).mpr ((wp_run (by rfl)).mpr ?_)
    unfold b__law_thing s__law_thing_0 s__law_thing_1 s__law_thing_2 s__law_thing_3 s__law_thing_4
    simp only [List.map_cons, List.map_nil, List.replicate, List.cons_append, List.nil_append]
    rw [ws_cons]
    simp only [ws_ife, ws_set, ws_sub, ws_ret_, ws_expr, ws_pass, ws_retn, ws_brk, ws_cnt, x_cmp, x_cmp2, x_ix, x_int, x_bl, x_str, x_non, x_npart, x_bin, x_neg, x_not, x_and, x_or, x_ife, x_lst, x_tup, x_call, x_bi, x_thaw, x_glob, ws_nilE, ws_consE, y_var, List.getElem?_cons_zero, List.getElem?_cons_succ, Option.some.injEq, exists_eq_left', List.set_cons_zero, List.set_cons_succ, c_gt, c_lt, c_le, c_ge, c_eq, c_ne, t_bl, t_int, n_add, n_sub, n_mul, n_mod, n_fdiv, n_pow, n_neg, ix_lst, ix_tup, decide_eq_true_eq, decide_eq_false_iff_not]
    refine pick dr.pick hd (by omega) (by decide) (by decide) fun kind μ1 k0 k1 d1 f1 => ?_
    simp only [ws_ife, ws_set, ws_sub, ws_ret_, ws_expr, ws_pass, ws_retn, ws_brk, ws_cnt, x_cmp, x_cmp2, x_ix, x_int, x_bl, x_str, x_non, x_npart, x_bin, x_neg, x_not, x_and, x_or, x_ife, x_lst, x_tup, x_call, x_bi, x_thaw, x_glob, ws_nilE, ws_consE, y_var, List.getElem?_cons_zero, List.getElem?_cons_succ, Option.some.injEq, exists_eq_left', List.set_cons_zero, List.set_cons_succ, c_gt, c_lt, c_le, c_ge, c_eq, c_ne, t_bl, t_int, n_add, n_sub, n_mul, n_mod, n_fdiv, n_pow, n_neg, ix_lst, ix_tup, decide_eq_true_eq, decide_eq_false_iff_not]
    rw [ws_cons]
    simp only [ws_ife, ws_set, ws_sub, ws_ret_, ws_expr, ws_pass, ws_retn, ws_brk, ws_cnt, x_cmp, x_cmp2, x_ix, x_int, x_bl, x_str, x_non, x_npart, x_bin, x_neg, x_not, x_and, x_or, x_ife, x_lst, x_tup, x_call, x_bi, x_thaw, x_glob, ws_nilE, ws_consE, y_var, List.getElem?_cons_zero, List.getElem?_cons_succ, Option.some.injEq, exists_eq_left', List.set_cons_zero, List.set_cons_succ, c_gt, c_lt, c_le, c_ge, c_eq, c_ne, t_bl, t_int, n_add, n_sub, n_mul, n_mod, n_fdiv, n_pow, n_neg, ix_lst, ix_tup, decide_eq_true_eq, decide_eq_false_iff_not, List.length_cons, List.length_nil]
    refine pick dr.pick d1 (by omega) (by decide) (by decide) fun p2 μ2 p20 p21 d2 f2 => ?_
    simp only [ws_ife, ws_set, ws_sub, ws_ret_, ws_expr, ws_pass, ws_retn, ws_brk, ws_cnt, x_cmp, x_cmp2, x_ix, x_int, x_bl, x_str, x_non, x_npart, x_bin, x_neg, x_not, x_and, x_or, x_ife, x_lst, x_tup, x_call, x_bi, x_thaw, x_glob, ws_nilE, ws_consE, y_var, List.getElem?_cons_zero, List.getElem?_cons_succ, Option.some.injEq, exists_eq_left', List.set_cons_zero, List.set_cons_succ, c_gt, c_lt, c_le, c_ge, c_eq, c_ne, t_bl, t_int, n_add, n_sub, n_mul, n_mod, n_fdiv, n_pow, n_neg, ix_lst, ix_tup, decide_eq_true_eq, decide_eq_false_iff_not, List.length_cons, List.length_nil]
    refine ⟨⟨by decide, by decide, by decide⟩, pick dr.pick d2 (by omega) (by decide) (by decide) fun p3 μ3 p30 p31 d3 f3 => ?_⟩
    simp only [ws_ife, ws_set, ws_sub, ws_ret_, ws_expr, ws_pass, ws_retn, ws_brk, ws_cnt, x_cmp, x_cmp2, x_ix, x_int, x_bl, x_str, x_non, x_npart, x_bin, x_neg, x_not, x_and, x_or, x_ife, x_lst, x_tup, x_call, x_bi, x_thaw, x_glob, ws_nilE, ws_consE, y_var, List.getElem?_cons_zero, List.getElem?_cons_succ, Option.some.injEq, exists_eq_left', List.set_cons_zero, List.set_cons_succ, c_gt, c_lt, c_le, c_ge, c_eq, c_ne, t_bl, t_int, n_add, n_sub, n_mul, n_mod, n_fdiv, n_pow, n_neg, ix_lst, ix_tup, decide_eq_true_eq, decide_eq_false_iff_not, List.length_cons, List.length_nil]
    refine ⟨⟨by decide, by decide, by decide⟩, ⟨by decide, by decide, by decide⟩, by decide, pick dr.pick d3 (by omega) (by decide) (by decide) fun p4 μ4 p40 p41 d4 f4 => ?_⟩
    have f14 := ((f1.trans f2).trans f3).trans f4
    obtain ⟨far, hf, hm⟩ := one (xs := [VM.D.int (p2 - 1), VM.D.int (p3 - 10 ^ Int.toNat 12), VM.D.int (0 - 10 ^ Int.toNat 59)]) p40 (by simpa using p41)
    have pf : ∀ j, Pl j 64 far := by
      intro j
      simp only [List.mem_cons, List.not_mem_nil, or_false] at hm
      have c1 : (10 : Int) ^ Int.toNat 13 = 10000000000000 := by decide
      have c2 : (10 : Int) ^ Int.toNat 12 = 1000000000000 := by decide
      have c3 : (1000000000000000000000 : Nat) < 10 ^ 61 := by decide
      rcases hm with rfl | rfl | rfl
      · exact .int _ (Nat.lt_trans (by omega) c3) (Nat.le_refl _)
      · exact .int _ (Nat.lt_trans (by rw [c1] at p31; rw [c2]; omega) c3) (Nat.le_refl _)
      · exact .int _ (by decide) (Nat.le_refl _)
    simp only [ws_ife, ws_set, ws_sub, ws_ret_, ws_expr, ws_pass, ws_retn, ws_brk, ws_cnt, x_cmp, x_cmp2, x_ix, x_int, x_bl, x_str, x_non, x_npart, x_bin, x_neg, x_not, x_and, x_or, x_ife, x_lst, x_tup, x_call, x_bi, x_thaw, x_glob, ws_nilE, ws_consE, y_var, List.getElem?_cons_zero, List.getElem?_cons_succ, Option.some.injEq, exists_eq_left', List.set_cons_zero, List.set_cons_succ, c_gt, c_lt, c_le, c_ge, c_eq, c_ne, t_bl, t_int, n_add, n_sub, n_mul, n_mod, n_fdiv, n_pow, n_neg, ix_lst, ix_tup, decide_eq_true_eq, decide_eq_false_iff_not, hf]
    have leaf : ∀ {d : VM.D} {f : Nat} {ν : Sto} {M : Nat}, Pl 0 64 d → Dk ν l M → M ≤ N + Kp deep → Fr μ ν l → ∃ x, frzTop μ.length d f ν = some x ∧ Q x (ν.take μ.length) := fun {d f ν M} h1 h2 h3 h4 => ⟨_, h1.top (by decide), by rw [h4.take]; exact k _ _ _ (h1.mono (by omega) tw) (h2.mono h3) h4⟩
    rw [ws_cons]
    simp only [ws_ife, ws_set, ws_sub, ws_ret_, ws_expr, ws_pass, ws_retn, ws_brk, ws_cnt, x_cmp, x_cmp2, x_ix, x_int, x_bl, x_str, x_non, x_npart, x_bin, x_neg, x_not, x_and, x_or, x_ife, x_lst, x_tup, x_call, x_bi, x_thaw, x_glob, ws_nilE, ws_consE, y_var, List.getElem?_cons_zero, List.getElem?_cons_succ, Option.some.injEq, exists_eq_left', List.set_cons_zero, List.set_cons_succ, c_gt, c_lt, c_le, c_ge, c_eq, c_ne, t_bl, t_int, n_add, n_sub, n_mul, n_mod, n_fdiv, n_pow, n_neg, ix_lst, ix_tup, decide_eq_true_eq, decide_eq_false_iff_not, ws_nil]
    refine ⟨fun _ => ?_, fun _ => ?_⟩
    · simp only [ws_cons, ws_nil, ws_ife, ws_set, ws_sub, ws_ret_, ws_expr, ws_pass, ws_retn, ws_brk, ws_cnt, x_cmp, x_cmp2, x_ix, x_int, x_bl, x_str, x_non, x_npart, x_bin, x_neg, x_not, x_and, x_or, x_ife, x_lst, x_tup, x_call, x_bi, x_thaw, x_glob, ws_nilE, ws_consE, y_var, List.getElem?_cons_zero, List.getElem?_cons_succ, Option.some.injEq, exists_eq_left', List.set_cons_zero, List.set_cons_succ, c_gt, c_lt, c_le, c_ge, c_eq, c_ne, t_bl, t_int, n_add, n_sub, n_mul, n_mod, n_fdiv, n_pow, n_neg, ix_lst, ix_tup, decide_eq_true_eq, decide_eq_false_iff_not]
      exact leaf (pf 0) d4 (by omega) f14
    rw [ws_cons]
    simp only [ws_ife, ws_set, ws_sub, ws_ret_, ws_expr, ws_pass, ws_retn, ws_brk, ws_cnt, x_cmp, x_cmp2, x_ix, x_int, x_bl, x_str, x_non, x_npart, x_bin, x_neg, x_not, x_and, x_or, x_ife, x_lst, x_tup, x_call, x_bi, x_thaw, x_glob, ws_nilE, ws_consE, y_var, List.getElem?_cons_zero, List.getElem?_cons_succ, Option.some.injEq, exists_eq_left', List.set_cons_zero, List.set_cons_succ, c_gt, c_lt, c_le, c_ge, c_eq, c_ne, t_bl, t_int, n_add, n_sub, n_mul, n_mod, n_fdiv, n_pow, n_neg, ix_lst, ix_tup, decide_eq_true_eq, decide_eq_false_iff_not, ws_nil]
    refine ⟨fun _ => ?_, fun _ => ?_⟩
    · obtain ⟨v, hv, hvm⟩ := one (xs := [VM.D.bl true, VM.D.bl false, VM.D.non]) (i := kind - 4) (by omega) (by simp; omega)
      simp only [ws_cons, ws_nil, ws_ife, ws_set, ws_sub, ws_ret_, ws_expr, ws_pass, ws_retn, ws_brk, ws_cnt, x_cmp, x_cmp2, x_ix, x_int, x_bl, x_str, x_non, x_npart, x_bin, x_neg, x_not, x_and, x_or, x_ife, x_lst, x_tup, x_call, x_bi, x_thaw, x_glob, ws_nilE, ws_consE, y_var, List.getElem?_cons_zero, List.getElem?_cons_succ, Option.some.injEq, exists_eq_left', List.set_cons_zero, List.set_cons_succ, c_gt, c_lt, c_le, c_ge, c_eq, c_ne, t_bl, t_int, n_add, n_sub, n_mul, n_mod, n_fdiv, n_pow, n_neg, ix_lst, ix_tup, decide_eq_true_eq, decide_eq_false_iff_not, hv, List.length_cons, List.length_nil]
      refine ⟨by decide, leaf ?_ d4 (by omega) f14⟩
      simp only [List.mem_cons, List.not_mem_nil, or_false] at hvm
      rcases hvm with rfl | rfl | rfl
      · exact .bl _ (by decide)
      · exact .bl _ (by decide)
      · exact .non (by decide)
    rw [ws_cons]
    simp only [ws_ife, ws_set, ws_sub, ws_ret_, ws_expr, ws_pass, ws_retn, ws_brk, ws_cnt, x_cmp, x_cmp2, x_ix, x_int, x_bl, x_str, x_non, x_npart, x_bin, x_neg, x_not, x_and, x_or, x_ife, x_lst, x_tup, x_call, x_bi, x_thaw, x_glob, ws_nilE, ws_consE, y_var, List.getElem?_cons_zero, List.getElem?_cons_succ, Option.some.injEq, exists_eq_left', List.set_cons_zero, List.set_cons_succ, c_gt, c_lt, c_le, c_ge, c_eq, c_ne, t_bl, t_int, n_add, n_sub, n_mul, n_mod, n_fdiv, n_pow, n_neg, ix_lst, ix_tup, decide_eq_true_eq, decide_eq_false_iff_not, ws_nil]
    refine ⟨fun _ => ?_, fun _ => ?_⟩
    · simp only [ws_cons, ws_nil, ws_ife, ws_set, ws_sub, ws_ret_, ws_expr, ws_pass, ws_retn, ws_brk, ws_cnt, x_cmp, x_cmp2, x_ix, x_int, x_bl, x_str, x_non, x_npart, x_bin, x_neg, x_not, x_and, x_or, x_ife, x_lst, x_tup, x_call, x_bi, x_thaw, x_glob, ws_nilE, ws_consE, y_var, List.getElem?_cons_zero, List.getElem?_cons_succ, Option.some.injEq, exists_eq_left', List.set_cons_zero, List.set_cons_succ, c_gt, c_lt, c_le, c_ge, c_eq, c_ne, t_bl, t_int, n_add, n_sub, n_mul, n_mod, n_fdiv, n_pow, n_neg, ix_lst, ix_tup, decide_eq_true_eq, decide_eq_false_iff_not, List.length_cons, List.length_nil]
      refine ⟨by decide, pick dr.pick d4 (by omega) (by decide) (by decide) fun p5 μ5 p50 p51 d5 f5 => ?_⟩
      obtain ⟨v, hv, hvm⟩ := one (xs := [VM.D.str "", VM.D.str "4", VM.D.str "none", VM.D.str "(4, 2)", VM.D.str "-1", VM.D.str "."]) (i := p5) (by omega) (by simp; omega)
      simp only [ws_ife, ws_set, ws_sub, ws_ret_, ws_expr, ws_pass, ws_retn, ws_brk, ws_cnt, x_cmp, x_cmp2, x_ix, x_int, x_bl, x_str, x_non, x_npart, x_bin, x_neg, x_not, x_and, x_or, x_ife, x_lst, x_tup, x_call, x_bi, x_thaw, x_glob, ws_nilE, ws_consE, y_var, List.getElem?_cons_zero, List.getElem?_cons_succ, Option.some.injEq, exists_eq_left', List.set_cons_zero, List.set_cons_succ, c_gt, c_lt, c_le, c_ge, c_eq, c_ne, t_bl, t_int, n_add, n_sub, n_mul, n_mod, n_fdiv, n_pow, n_neg, ix_lst, ix_tup, decide_eq_true_eq, decide_eq_false_iff_not, hv]
      refine leaf ?_ d5 (by omega) (f14.trans f5)
      simp only [List.mem_cons, List.not_mem_nil, or_false] at hvm
      rcases hvm with rfl | rfl | rfl | rfl | rfl | rfl <;> exact .str _ (by decide +kernel) (by decide +kernel)
    rw [ws_cons]
    unfold s__law_thing_5
    simp only [ws_ife, ws_set, ws_sub, ws_ret_, ws_expr, ws_pass, ws_retn, ws_brk, ws_cnt, x_cmp, x_cmp2, x_ix, x_int, x_bl, x_str, x_non, x_npart, x_bin, x_neg, x_not, x_and, x_or, x_ife, x_lst, x_tup, x_call, x_bi, x_thaw, x_glob, ws_nilE, ws_consE, y_var, List.getElem?_cons_zero, List.getElem?_cons_succ, Option.some.injEq, exists_eq_left', List.set_cons_zero, List.set_cons_succ, c_gt, c_lt, c_le, c_ge, c_eq, c_ne, t_bl, t_int, n_add, n_sub, n_mul, n_mod, n_fdiv, n_pow, n_neg, ix_lst, ix_tup, decide_eq_true_eq, decide_eq_false_iff_not, x_lc, i_r1]
    refine pick dr.pick d4 (by omega) (by decide) (by decide) fun p5 μ5 p50 p51 d5 f5 => ?_
    simp only [ws_ife, ws_set, ws_sub, ws_ret_, ws_expr, ws_pass, ws_retn, ws_brk, ws_cnt, x_cmp, x_cmp2, x_ix, x_int, x_bl, x_str, x_non, x_npart, x_bin, x_neg, x_not, x_and, x_or, x_ife, x_lst, x_tup, x_call, x_bi, x_thaw, x_glob, ws_nilE, ws_consE, y_var, List.getElem?_cons_zero, List.getElem?_cons_succ, Option.some.injEq, exists_eq_left', List.set_cons_zero, List.set_cons_succ, c_gt, c_lt, c_le, c_ge, c_eq, c_ne, t_bl, t_int, n_add, n_sub, n_mul, n_mod, n_fdiv, n_pow, n_neg, ix_lst, ix_tup, decide_eq_true_eq, decide_eq_false_iff_not, bi_int_bl]
    have h2 : ((if (deep : Int) > 0 then 1 else 0 : Int)).natAbs < 2 ^ 1 := by split <;> decide
    refine ⟨lgm (p := 3) (by omega) h2 (by decide), _, rfl, small_of (by split <;> omega) (by split <;> omega), ?_⟩
    have f15 := f14.trans f5
    have hm : Int.toNat (p5 * (if (deep : Int) > 0 then 1 else 0)) ≤ 3 := by split <;> omega
    have hz : deep = 0 → Int.toNat (p5 * (if (deep : Int) > 0 then 1 else 0)) = 0 := by intro z; rw [z]; simp
    generalize Int.toNat (p5 * (if (deep : Int) > 0 then 1 else 0)) = m at hm hz ⊢
    have fin : ∀ (acc : List VM.D) (ν : Sto), acc.length ≤ 3 → (∀ d ∈ acc, Pl deep (Tw (deep - 1)) d) → (deep = 0 → acc = []) → Dk ν l (N + Kp deep) → Fr μ ν l → Ws (runSs (tb P (n + deep + 1)) μ.length (.cons s__law_thing_6 .nil) ([some (.cell l), some (.int deep), some (.int kind), some far, none, none].set 4 (some (.lst acc))) ν)
        (fun _ μ' => Q (.non, 0) (μ'.take μ.length)) (fun d f μ' => ∃ x, frzTop μ.length d f μ' = some x ∧ Q x (μ'.take μ.length)) (fun _ _ => False) (fun _ _ => False) (fun x _ μ' => E x (μ'.take μ.length)) := by
      intro acc ν h1 h2 h3 h4 h5
      have len : acc.length * (Tw (deep - 1) + 2) + 3 ≤ Tw deep := by
        cases deep with
        | zero => rw [h3 rfl]; simp [Tw]
        | succ d =>
          have : acc.length * (Tw d + 2) ≤ 3 * (Tw d + 2) := Nat.mul_le_mul_right _ h1
          show acc.length * (Tw d + 2) + 3 ≤ 3 * (Tw d + 2) + 3
          omega
      unfold s__law_thing_6
      simp only [ws_cons, ws_nil, ws_ife, ws_set, ws_sub, ws_ret_, ws_expr, ws_pass, ws_retn, ws_brk, ws_cnt, x_cmp, x_cmp2, x_ix, x_int, x_bl, x_str, x_non, x_npart, x_bin, x_neg, x_not, x_and, x_or, x_ife, x_lst, x_tup, x_call, x_bi, x_thaw, x_glob, ws_nilE, ws_consE, y_var, List.getElem?_cons_zero, List.getElem?_cons_succ, Option.some.injEq, exists_eq_left', List.set_cons_zero, List.set_cons_succ, c_gt, c_lt, c_le, c_ge, c_eq, c_ne, t_bl, t_int, n_add, n_sub, n_mul, n_mod, n_fdiv, n_pow, n_neg, ix_lst, ix_tup, decide_eq_true_eq, decide_eq_false_iff_not, bi_tuple]
      refine ⟨fun _ => ?_, fun _ => ?_⟩
      · have p : Pl (deep + 1) (Tw deep) (.lst acc) := .lst _ h2 len
        exact ⟨_, p.top (by omega), by rw [h5.take]; exact k _ _ _ p h4 h5⟩
      · have p : Pl (deep + 1) (Tw deep) (.tup acc) := .tup _ h2 len
        exact ⟨_, p.top (by omega), by rw [h5.take]; exact k _ _ _ p h4 h5⟩
    refine wp_lcRange (fun i acc ν => acc.length = i ∧ (∀ d ∈ acc, Pl deep (Tw (deep - 1)) d) ∧ Dk ν l (N + 5 + i * Kp (deep - 1)) ∧ Fr μ ν l) ⟨rfl, (fun _ h => by cases h), d5.mono (by omega), f15⟩ (fun i acc ν hi hI => ?_) fun acc ν hI => ?_
    · have h1 := hI.1; have h2 := hI.2.1; have h3 := hI.2.2.1; have h4 := hI.2.2.2
      cases deep with
      | zero => have := hz rfl; omega
      | succ d =>
        have e : (((d + 1 : Nat) : Int) - 1) = (d : Int) := by omega
        have kk : Kp (d + 1) = 8 + 3 * Kp d := rfl
        have ii : i * Kp d ≤ 2 * Kp d := Nat.mul_le_mul_right _ (by omega)
        simp only [Nat.add_sub_cancel] at h2 h3 ⊢
        simp only [ws_ife, ws_set, ws_sub, ws_ret_, ws_expr, ws_pass, ws_retn, ws_brk, ws_cnt, x_cmp, x_cmp2, x_ix, x_int, x_bl, x_str, x_non, x_npart, x_bin, x_neg, x_not, x_and, x_or, x_ife, x_lst, x_tup, x_call, x_bi, x_thaw, x_glob, ws_nilE, ws_consE, y_var, List.getElem?_cons_zero, List.getElem?_cons_succ, Option.some.injEq, exists_eq_left', List.set_cons_zero, List.set_cons_succ, c_gt, c_lt, c_le, c_ge, c_eq, c_ne, t_bl, t_int, n_add, n_sub, n_mul, n_mod, n_fdiv, n_pow, n_neg, ix_lst, ix_tup, decide_eq_true_eq, decide_eq_false_iff_not, lc_name, wipe1, Bool.true_eq_false, false_implies, and_true, true_implies, e]
        refine ih d rfl (n := n) h3 (by omega) fun x f ν' g1 g2 g3 => ⟨szr (by omega), by simp [h1], fun y hy => ?_, g2.mono (by rw [Nat.succ_mul]; omega), h4.trans g3⟩
        rcases List.mem_append.mp hy with hy | hy
        · exact h2 y hy
        · rw [List.mem_singleton.mp hy]; exact g1
    · have h1 := hI.1; have h2 := hI.2.1; have h3 := hI.2.2.1; have h4 := hI.2.2.2
      refine fin acc ν (by omega) h2 (fun z => List.length_eq_zero_iff.mp (by rw [h1, hz z])) (h3.mono ?_) h4
      cases deep with
      | zero => rw [hz rfl]; omega
      | succ d =>
        have : m * Kp d ≤ 3 * Kp d := Nat.mul_le_mul_right _ hm
        show N + 5 + m * Kp d ≤ N + (8 + 3 * Kp d)
        omega
/-- a thing of the law's -/
theorem thing : ∀ deep : Nat, deep < 8 → ThingAt deep
  | 0, _ => thing_step 0 (by decide) fun d' h => by omega
  | d + 1, h => thing_step (d + 1) h fun d' h' => by
    cases h'
    exact thing d (by omega)
end Law

set_option Elab.async false
set_option maxRecDepth 10000
set_option autoImplicit false
set_option linter.unusedVariables false
set_option linter.unusedSimpArgs false
namespace Law
open PySem VM
open L2 (atI ixN)
variable {E : Exc → Sto → Prop} {n b l N : Nat} {μ : Sto} {Q : VM.D × Nat → Sto → Prop}
theorem isin_of {d : VM.D} {t m : String} {k : Bool} (ht : tyD μ d = some t) (hk : isaT t m = some k) : Wp (biD "isinstance" [d, .ty m] μ) Q E ↔ Q (.bl k, 0) μ := by
  have e : biD "isinstance" [d, .ty m] μ = .ok (.bl k, 0) μ := by
    show sh ((tyD μ d).bind fun t => (isaT t m).map .bl) μ = _
    rw [ht]
    show sh ((isaT t m).map .bl) μ = _
    rw [hk]; rfl
  rw [e]; exact wp_ok
def tyP : VM.D → String
  | .non => "NoneType" | .bl _ => "bool" | .int _ => "int" | .str _ => "str" | .lst _ => "list" | _ => "tuple"
theorem Pl.ty {k w : Nat} {d : VM.D} (h : Pl k w d) : tyD μ d = some (tyP d) := by cases h <;> rfl
def isW : VM.D → Bool
  | .int _ => true | _ => false
def isL : VM.D → Bool
  | .lst _ => true | _ => false
theorem ia1 : isaT "NoneType" "int" = some false := by decide +kernel
theorem ia2 : isaT "bool" "int" = some true := by decide +kernel
theorem ia3 : isaT "int" "int" = some true := by decide +kernel
theorem ia4 : isaT "str" "int" = some false := by decide +kernel
theorem ia5 : isaT "list" "int" = some false := by decide +kernel
theorem ia6 : isaT "tuple" "int" = some false := by decide +kernel
theorem ib1 : isaT "NoneType" "bool" = some false := by decide +kernel
theorem ib2 : isaT "bool" "bool" = some true := by decide +kernel
theorem ib3 : isaT "int" "bool" = some false := by decide +kernel
theorem ib4 : isaT "str" "bool" = some false := by decide +kernel
theorem ib5 : isaT "list" "bool" = some false := by decide +kernel
theorem ib6 : isaT "tuple" "bool" = some false := by decide +kernel
theorem il1 : isaT "NoneType" "list" = some false := by decide +kernel
theorem il2 : isaT "bool" "list" = some false := by decide +kernel
theorem il3 : isaT "int" "list" = some false := by decide +kernel
theorem il4 : isaT "str" "list" = some false := by decide +kernel
theorem il5 : isaT "list" "list" = some true := by decide +kernel
theorem il6 : isaT "tuple" "list" = some false := by decide +kernel
theorem isa_int {k w : Nat} {d : VM.D} (h : Pl k w d) : ∃ t, isaT (tyP d) "int" = some t ∧ ∃ u, isaT (tyP d) "bool" = some u ∧ (t && !u) = isW d ∧ (t = false → isW d = false) := by
  cases h with
  | non => exact ⟨false, ia1, false, ib1, rfl, fun _ => rfl⟩
  | bl b => exact ⟨true, ia2, true, ib2, rfl, fun _ => rfl⟩
  | int i => exact ⟨true, ia3, false, ib3, rfl, fun z => by cases z⟩
  | str s => exact ⟨false, ia4, false, ib4, rfl, fun _ => rfl⟩
  | lst xs => exact ⟨false, ia5, false, ib5, rfl, fun _ => rfl⟩
  | tup xs => exact ⟨false, ia6, false, ib6, rfl, fun _ => rfl⟩
theorem isa_list {k w : Nat} {d : VM.D} (h : Pl k w d) : isaT (tyP d) "list" = some (isL d) := by
  cases h with
  | non => exact il1
  | bl b => exact il2
  | int i => exact il3
  | str s => exact il4
  | lst xs => exact il5
  | tup xs => exact il6
theorem g_ty {x : Str} {m : String} (h : glb.lookup x = some (.ty m)) : ((tb P n).glob x = some (.ty m)) := by rw [tb_glob]; exact h
theorem g_int : (tb P n).glob "int" = some (.ty "int") := g_ty (by kernel_rfl)
theorem g_bool : (tb P n).glob "bool" = some (.ty "bool") := g_ty (by kernel_rfl)
theorem g_list : (tb P n).glob "list" = some (.ty "list") := g_ty (by kernel_rfl)
theorem g_most : (tb P n).glob "MOST" = some (.int 6) := by rw [tb_glob]; show List.lookup (PySem.Str.ofString "MOST") glb = _; kernel_rfl
theorem take_self : μ.take μ.length = μ := List.take_length
/-- both ways to ask for a whole number -/
theorem whole_body {k w : Nat} {d : VM.D} {T : Tb} {bb : Nat} (hT : T = tb P n) (h : Pl k w d) (q : Q (.bl (isW d), 0) μ) :
    Wp (evE T bb (.and (.bi "isinstance" (.cons (.var 0) (.cons (.glob "int") .nil))) (.not (.bi "isinstance" (.cons (.var 0) (.cons (.glob "bool") .nil))))) [some d] μ) Q E := by
  subst hT
  obtain ⟨t, h1, u, h2, h3, h4⟩ := isa_int h
  simp only [ws_ife, ws_set, ws_sub, ws_ret_, ws_expr, ws_pass, ws_retn, ws_brk, ws_cnt, x_cmp, x_cmp2, x_ix, x_int, x_bl, x_str, x_non, x_npart, x_bin, x_neg, x_not, x_and, x_or, x_ife, x_lst, x_tup, x_call, x_bi, x_thaw, x_glob, ws_nilE, ws_consE, y_var, List.getElem?_cons_zero, List.getElem?_cons_succ, Option.some.injEq, exists_eq_left', List.set_cons_zero, List.set_cons_succ, c_gt, c_lt, c_le, c_ge, c_eq, c_ne, t_bl, t_int, n_add, n_sub, n_mul, n_mod, n_fdiv, n_pow, n_neg, ix_lst, ix_tup, decide_eq_true_eq, decide_eq_false_iff_not, g_int, g_bool, isin_of (Pl.ty h) h1, isin_of (Pl.ty h) h2]
  refine ⟨fun z => ?_, fun z => ?_⟩
  · rw [z] at h3
    rw [Bool.true_and] at h3
    rw [h3]; exact q
  · rw [h4 z] at q; rw [z]; exact q
theorem is_whole {k w : Nat} {d : VM.D} (h : Pl k w d) (q : Q (.bl (isW d), 0) μ) : Wp ((tb P (n + 1)).call "is_whole" b [d] μ) Q E := by
  refine (wp_call q_is_whole).mpr ((wp_run (by rfl)).mpr ?_)
  unfold b_is_whole s_is_whole_0
  simp only [List.map_cons, List.map_nil, List.replicate, List.cons_append, List.nil_append, ws_cons, ws_ret_]
  exact whole_body rfl h ⟨_, rfl, by rw [take_self]; exact q⟩
theorem law_whole {k w : Nat} {d : VM.D} (h : Pl k w d) (q : Q (.bl (isW d), 0) μ) : Wp ((tb P (n + 1)).call "_law_whole" b [d] μ) Q E := by
  refine (wp_call q__law_whole).mpr ((wp_run (by rfl)).mpr ?_)
  unfold b__law_whole s__law_whole_0
  simp only [List.map_cons, List.map_nil, List.replicate, List.cons_append, List.nil_append, ws_cons, ws_ret_]
  exact whole_body rfl h ⟨_, rfl, by rw [take_self]; exact q⟩
/-! rows -/
def isRow : VM.D → Bool
  | .lst xs => decide (1 ≤ xs.length) && decide (xs.length ≤ 6) && xs.all isW
  | _ => false
theorem isRow_lst {xs : List VM.D} : isRow (.lst xs) = (decide (1 ≤ xs.length) && decide (xs.length ≤ 6) && xs.all isW) := rfl
theorem len_lst {xs : List VM.D} : Wp (biD "len" [.lst xs] μ) Q E ↔ Q (.int xs.length, 0) μ := wp_ok
theorem mapB (xs : List Bool) : (xs.map VM.D.bl).mapM ofB = some xs := by
  induction xs with
  | nil => simp
  | cons x xs ih => rw [List.map_cons, List.mapM_cons, ih]; rfl
theorem all_lst {bs : List Bool} : Wp (biD "all" [.lst (bs.map .bl)] μ) Q E ↔ Q (.bl (bs.all id), 0) μ := by
  have e : biD "all" [.lst (bs.map .bl)] μ = .ok (.bl (bs.all id), 0) μ := by
    show sh (((bs.map VM.D.bl).mapM ofB).map fun ks => .bl (ks.all id)) μ = _
    rw [mapB]; rfl
  rw [e]; exact wp_ok
theorem fm_map {α β : Type} (f : α → β) (xs : List α) : xs.filterMap (fun x => some (f x)) = xs.map f := by
  induction xs with
  | nil => rfl
  | cons x xs ih => rw [List.filterMap_cons, ih]; rfl
theorem pl_len {k w : Nat} {xs : List VM.D} (h : Pl k w (.lst xs)) (hw : w ≤ 16000000) : xs.length ≤ sizeLine := by
  cases h with
  | lst _ h1 h2 =>
    rename_i k wi
    rw [sizeLine_eq]
    have : xs.length * 2 ≤ xs.length * (wi + 2) := Nat.mul_le_mul_left _ (by omega)
    omega
/-- a comprehension that asks each item, nothing written -/
theorem lc_ask {T : Tb} {bb i : Nat} {ρ : Ev} {elt : VM.E} {own : List Nat} {xs : List VM.D} {f : VM.D → Bool} {R : List VM.D → Sto → Prop} (hl : xs.length ≤ sizeLine) (hs : ∀ x ∈ xs, ∀ R : VM.D × Nat → Sto → Prop, R (.bl (f x), 0) μ → Wp (evE T bb elt ((wipeD ρ own).set i (some x)) μ) R NoX) (q : R ((xs.map f).map .bl) μ) :
    Wp (lcLoop (lcF T bb elt (.name i) (.bl true) own ρ) (.data xs) ((Src.data xs).size μ + 1) 0 [] μ) R NoX := by
  refine wp_lcPure (xs := xs) (fun x => some (.bl (f x))) (fun _ => src_data _) (by rfl) hl (fun x hx => ?_) ?_
  · rw [lc_name]
    simp only [ws_ife, ws_set, ws_sub, ws_ret_, ws_expr, ws_pass, ws_retn, ws_brk, ws_cnt, x_cmp, x_cmp2, x_ix, x_int, x_bl, x_str, x_non, x_npart, x_bin, x_neg, x_not, x_and, x_or, x_ife, x_lst, x_tup, x_call, x_bi, x_thaw, x_glob, ws_nilE, ws_consE, y_var, List.getElem?_cons_zero, List.getElem?_cons_succ, Option.some.injEq, exists_eq_left', List.set_cons_zero, List.set_cons_succ, c_gt, c_lt, c_le, c_ge, c_eq, c_ne, t_bl, t_int, n_add, n_sub, n_mul, n_mod, n_fdiv, n_pow, n_neg, ix_lst, ix_tup, decide_eq_true_eq, decide_eq_false_iff_not, Bool.true_eq_false, false_implies, and_true, true_implies]
    exact hs x hx _ ⟨rfl, rfl⟩
  · rw [fm_map, List.map_map] at *
    exact q
theorem is_row {k w : Nat} {d : VM.D} (h : Pl k w d) (hw : w ≤ 16000000) (q : Q (.bl (isRow d), 0) μ) : Wp ((tb P (n + 2)).call "is_row" b [d] μ) Q E := by
  refine (wp_call q_is_row).mpr ((wp_run (by rfl)).mpr ?_)
  unfold b_is_row s_is_row_0
  simp only [List.map_cons, List.map_nil, List.replicate, List.cons_append, List.nil_append, ws_cons, ws_nil, ws_ife, ws_set, ws_sub, ws_ret_, ws_expr, ws_pass, ws_retn, ws_brk, ws_cnt, x_cmp, x_cmp2, x_ix, x_int, x_bl, x_str, x_non, x_npart, x_bin, x_neg, x_not, x_and, x_or, x_ife, x_lst, x_tup, x_call, x_bi, x_thaw, x_glob, ws_nilE, ws_consE, y_var, List.getElem?_cons_zero, List.getElem?_cons_succ, Option.some.injEq, exists_eq_left', List.set_cons_zero, List.set_cons_succ, c_gt, c_lt, c_le, c_ge, c_eq, c_ne, t_bl, t_int, n_add, n_sub, n_mul, n_mod, n_fdiv, n_pow, n_neg, ix_lst, ix_tup, decide_eq_true_eq, decide_eq_false_iff_not, g_list, isin_of (Pl.ty h) (isa_list h)]
  refine ⟨fun z => ?_, fun z => ?_⟩
  · cases d with
    | lst xs =>
      have hl := pl_len h hw
      by_cases h1 : (1 : Int) ≤ xs.length
      · by_cases h2 : (xs.length : Int) ≤ 6
        · simp only [ws_ife, ws_set, ws_sub, ws_ret_, ws_expr, ws_pass, ws_retn, ws_brk, ws_cnt, x_cmp, x_cmp2, x_ix, x_int, x_bl, x_str, x_non, x_npart, x_bin, x_neg, x_not, x_and, x_or, x_ife, x_lst, x_tup, x_call, x_bi, x_thaw, x_glob, ws_nilE, ws_consE, y_var, List.getElem?_cons_zero, List.getElem?_cons_succ, Option.some.injEq, exists_eq_left', List.set_cons_zero, List.set_cons_succ, c_gt, c_lt, c_le, c_ge, c_eq, c_ne, t_bl, t_int, n_add, n_sub, n_mul, n_mod, n_fdiv, n_pow, n_neg, ix_lst, ix_tup, decide_eq_true_eq, decide_eq_false_iff_not, len_lst, g_most, x_lc, i_exD, h1, h2, true_implies, not_true_eq_false, false_implies, and_true]
          refine ⟨_, rfl, lc_ask (f := isW) hl (fun x hx R r => ?_) ?_⟩
          · simp only [ws_ife, ws_set, ws_sub, ws_ret_, ws_expr, ws_pass, ws_retn, ws_brk, ws_cnt, x_cmp, x_cmp2, x_ix, x_int, x_bl, x_str, x_non, x_npart, x_bin, x_neg, x_not, x_and, x_or, x_ife, x_lst, x_tup, x_call, x_bi, x_thaw, x_glob, ws_nilE, ws_consE, y_var, List.getElem?_cons_zero, List.getElem?_cons_succ, Option.some.injEq, exists_eq_left', List.set_cons_zero, List.set_cons_succ, c_gt, c_lt, c_le, c_ge, c_eq, c_ne, t_bl, t_int, n_add, n_sub, n_mul, n_mod, n_fdiv, n_pow, n_neg, ix_lst, ix_tup, decide_eq_true_eq, decide_eq_false_iff_not, wipe1]
            cases h with
            | lst _ h1 h2 => exact is_whole (h1 x hx) r
          · rw [all_lst]
            refine ⟨_, rfl, ?_⟩
            rw [take_self]
            have : isRow (.lst xs) = (xs.map isW).all id := by
              rw [isRow_lst, decide_eq_true (by omega : 1 ≤ xs.length), decide_eq_true (by omega : xs.length ≤ 6), List.all_map]; rfl
            rw [← this]; exact q
        · have : isRow (.lst xs) = false := by
            rw [isRow_lst, decide_eq_false (by omega : ¬ xs.length ≤ 6)]; simp
          rw [this] at q
          simp only [ws_ife, ws_set, ws_sub, ws_ret_, ws_expr, ws_pass, ws_retn, ws_brk, ws_cnt, x_cmp, x_cmp2, x_ix, x_int, x_bl, x_str, x_non, x_npart, x_bin, x_neg, x_not, x_and, x_or, x_ife, x_lst, x_tup, x_call, x_bi, x_thaw, x_glob, ws_nilE, ws_consE, y_var, List.getElem?_cons_zero, List.getElem?_cons_succ, Option.some.injEq, exists_eq_left', List.set_cons_zero, List.set_cons_succ, c_gt, c_lt, c_le, c_ge, c_eq, c_ne, t_bl, t_int, n_add, n_sub, n_mul, n_mod, n_fdiv, n_pow, n_neg, ix_lst, ix_tup, decide_eq_true_eq, decide_eq_false_iff_not, len_lst, g_most, x_lc, i_exD, h1, h2, true_implies, not_true_eq_false, false_implies, and_true, not_false_eq_true, true_and, decide_false, Bool.false_eq_true]
          exact ⟨_, rfl, by rw [take_self]; exact q⟩
      · have : isRow (.lst xs) = false := by
          rw [isRow_lst, decide_eq_false (by omega : ¬ 1 ≤ xs.length)]; simp
        rw [this] at q
        simp only [ws_ife, ws_set, ws_sub, ws_ret_, ws_expr, ws_pass, ws_retn, ws_brk, ws_cnt, x_cmp, x_cmp2, x_ix, x_int, x_bl, x_str, x_non, x_npart, x_bin, x_neg, x_not, x_and, x_or, x_ife, x_lst, x_tup, x_call, x_bi, x_thaw, x_glob, ws_nilE, ws_consE, y_var, List.getElem?_cons_zero, List.getElem?_cons_succ, Option.some.injEq, exists_eq_left', List.set_cons_zero, List.set_cons_succ, c_gt, c_lt, c_le, c_ge, c_eq, c_ne, t_bl, t_int, n_add, n_sub, n_mul, n_mod, n_fdiv, n_pow, n_neg, ix_lst, ix_tup, decide_eq_true_eq, decide_eq_false_iff_not, len_lst, g_most, x_lc, i_exD, h1, true_implies, not_true_eq_false, false_implies, and_true, not_false_eq_true, true_and, Bool.false_eq_true]
        exact ⟨_, rfl, by rw [take_self]; exact q⟩
    | _ => cases z
  · have : isRow d = false := by cases d <;> first | rfl | cases z
    rw [this] at q
    refine ⟨_, rfl, ?_⟩
    rw [take_self, z]; exact q
end Law

set_option Elab.async false
set_option maxRecDepth 10000
set_option autoImplicit false
set_option linter.unusedVariables false
set_option linter.unusedSimpArgs false
namespace Law
open PySem VM
open L2 (atI ixN)
variable {E : Exc → Sto → Prop} {n b l N : Nat} {μ : Sto} {Q : VM.D × Nat → Sto → Prop}
def lenP : VM.D → Nat
  | .lst xs => xs.length | _ => 0
def areRows : VM.D → Bool
  | .lst xs => decide (1 ≤ xs.length) && decide (xs.length ≤ 6) && xs.all isRow && xs.all (fun r => decide (lenP r = lenP (xs.headD .non)))
  | _ => false
theorem areRows_lst {xs : List VM.D} : areRows (.lst xs) = (decide (1 ≤ xs.length) && decide (xs.length ≤ 6) && xs.all isRow && xs.all (fun r => decide (lenP r = lenP (xs.headD .non)))) := rfl
theorem head_at {xs : List VM.D} (h : 1 ≤ xs.length) : atI xs 0 = some (xs.headD .non) ∧ xs.headD .non ∈ xs := by
  cases xs with
  | nil => simp at h
  | cons x xs => exact ⟨at0, List.mem_cons_self⟩
theorem row_lst {d : VM.D} (h : isRow d = true) : ∃ xs, d = .lst xs := by
  cases d <;> first | exact ⟨_, rfl⟩ | cases h
theorem are_rows {k w : Nat} {d : VM.D} (h : Pl k w d) (hw : w ≤ 16000000) (q : Q (.bl (areRows d), 0) μ) : Wp ((tb P (n + 3)).call "are_rows" b [d] μ) Q E := by
  refine (wp_call q_are_rows).mpr ((wp_run (by rfl)).mpr ?_)
  unfold b_are_rows s_are_rows_0
  have no : areRows d = false → ∃ x, frzTop μ.length (.bl false) 0 μ = some x ∧ Q x (μ.take μ.length) := fun e => ⟨_, rfl, by rw [take_self, ← e]; exact q⟩
  simp only [List.map_cons, List.map_nil, List.replicate, List.cons_append, List.nil_append]
  rw [ws_cons]
  simp only [ws_ife, ws_set, ws_sub, ws_ret_, ws_expr, ws_pass, ws_retn, ws_brk, ws_cnt, x_cmp, x_cmp2, x_ix, x_int, x_bl, x_str, x_non, x_npart, x_bin, x_neg, x_not, x_and, x_or, x_ife, x_lst, x_tup, x_call, x_bi, x_thaw, x_glob, ws_nilE, ws_consE, y_var, List.getElem?_cons_zero, List.getElem?_cons_succ, Option.some.injEq, exists_eq_left', List.set_cons_zero, List.set_cons_succ, c_gt, c_lt, c_le, c_ge, c_eq, c_ne, t_bl, t_int, n_add, n_sub, n_mul, n_mod, n_fdiv, n_pow, n_neg, ix_lst, ix_tup, decide_eq_true_eq, decide_eq_false_iff_not, g_list, isin_of (Pl.ty h) (isa_list h)]
  cases hL : isL d with
  | false =>
    have e : areRows d = false := by cases d <;> first | rfl | cases hL
    simp only [ws_ife, ws_set, ws_sub, ws_ret_, ws_expr, ws_pass, ws_retn, ws_brk, ws_cnt, x_cmp, x_cmp2, x_ix, x_int, x_bl, x_str, x_non, x_npart, x_bin, x_neg, x_not, x_and, x_or, x_ife, x_lst, x_tup, x_call, x_bi, x_thaw, x_glob, ws_nilE, ws_consE, y_var, List.getElem?_cons_zero, List.getElem?_cons_succ, Option.some.injEq, exists_eq_left', List.set_cons_zero, List.set_cons_succ, c_gt, c_lt, c_le, c_ge, c_eq, c_ne, t_bl, t_int, n_add, n_sub, n_mul, n_mod, n_fdiv, n_pow, n_neg, ix_lst, ix_tup, decide_eq_true_eq, decide_eq_false_iff_not, ws_cons, ws_nil, Bool.not_false, Bool.true_eq_false, false_implies, and_true, true_implies, true_and, Bool.not_true]
    exact no e
  | true =>
    cases d with
    | lst xs =>
      have hl := pl_len h hw
      have sub : ∀ x ∈ xs, ∃ k' w', Pl k' w' x ∧ w' ≤ 16000000 := by
        intro x hx
        cases h with
        | lst _ h1 h2 =>
          rename_i wi
          have : 1 * (wi + 2) ≤ xs.length * (wi + 2) := Nat.mul_le_mul_right _ (by have := List.length_pos_of_mem hx; omega)
          exact ⟨_, _, h1 x hx, by omega⟩
      by_cases h1 : (1 : Int) ≤ xs.length
      · by_cases h2 : (xs.length : Int) ≤ 6
        · simp only [ws_ife, ws_set, ws_sub, ws_ret_, ws_expr, ws_pass, ws_retn, ws_brk, ws_cnt, x_cmp, x_cmp2, x_ix, x_int, x_bl, x_str, x_non, x_npart, x_bin, x_neg, x_not, x_and, x_or, x_ife, x_lst, x_tup, x_call, x_bi, x_thaw, x_glob, ws_nilE, ws_consE, y_var, List.getElem?_cons_zero, List.getElem?_cons_succ, Option.some.injEq, exists_eq_left', List.set_cons_zero, List.set_cons_succ, c_gt, c_lt, c_le, c_ge, c_eq, c_ne, t_bl, t_int, n_add, n_sub, n_mul, n_mod, n_fdiv, n_pow, n_neg, ix_lst, ix_tup, decide_eq_true_eq, decide_eq_false_iff_not, len_lst, g_most, x_lc, i_exD, h1, h2, true_implies, not_true_eq_false, false_implies, and_true, Bool.not_true, Bool.false_eq_true, Bool.true_eq_false, true_and, decide_true]
          refine ⟨_, rfl, lc_ask (f := isRow) hl (fun x hx R r => ?_) ?_⟩
          · simp only [ws_ife, ws_set, ws_sub, ws_ret_, ws_expr, ws_pass, ws_retn, ws_brk, ws_cnt, x_cmp, x_cmp2, x_ix, x_int, x_bl, x_str, x_non, x_npart, x_bin, x_neg, x_not, x_and, x_or, x_ife, x_lst, x_tup, x_call, x_bi, x_thaw, x_glob, ws_nilE, ws_consE, y_var, List.getElem?_cons_zero, List.getElem?_cons_succ, Option.some.injEq, exists_eq_left', List.set_cons_zero, List.set_cons_succ, c_gt, c_lt, c_le, c_ge, c_eq, c_ne, t_bl, t_int, n_add, n_sub, n_mul, n_mod, n_fdiv, n_pow, n_neg, ix_lst, ix_tup, decide_eq_true_eq, decide_eq_false_iff_not, wipe1]
            obtain ⟨k', w', p, pw⟩ := sub x hx
            exact is_row p pw r
          · rw [all_lst]
            simp only [ws_ife, ws_set, ws_sub, ws_ret_, ws_expr, ws_pass, ws_retn, ws_brk, ws_cnt, x_cmp, x_cmp2, x_ix, x_int, x_bl, x_str, x_non, x_npart, x_bin, x_neg, x_not, x_and, x_or, x_ife, x_lst, x_tup, x_call, x_bi, x_thaw, x_glob, ws_nilE, ws_consE, y_var, List.getElem?_cons_zero, List.getElem?_cons_succ, Option.some.injEq, exists_eq_left', List.set_cons_zero, List.set_cons_succ, c_gt, c_lt, c_le, c_ge, c_eq, c_ne, t_bl, t_int, n_add, n_sub, n_mul, n_mod, n_fdiv, n_pow, n_neg, ix_lst, ix_tup, decide_eq_true_eq, decide_eq_false_iff_not, Bool.not_eq_true', Bool.not_eq_false']
            have e0 : areRows (.lst xs) = ((xs.map isRow).all id && xs.all (fun r => decide (lenP r = lenP (xs.headD .non)))) := by
              rw [areRows_lst, decide_eq_true (by omega : 1 ≤ xs.length), decide_eq_true (by omega : xs.length ≤ 6), List.all_map]; rfl
            refine ⟨fun z => ?_, fun z => ?_⟩
            · simp only [ws_cons, ws_nil, ws_ife, ws_set, ws_sub, ws_ret_, ws_expr, ws_pass, ws_retn, ws_brk, ws_cnt, x_cmp, x_cmp2, x_ix, x_int, x_bl, x_str, x_non, x_npart, x_bin, x_neg, x_not, x_and, x_or, x_ife, x_lst, x_tup, x_call, x_bi, x_thaw, x_glob, ws_nilE, ws_consE, y_var, List.getElem?_cons_zero, List.getElem?_cons_succ, Option.some.injEq, exists_eq_left', List.set_cons_zero, List.set_cons_succ, c_gt, c_lt, c_le, c_ge, c_eq, c_ne, t_bl, t_int, n_add, n_sub, n_mul, n_mod, n_fdiv, n_pow, n_neg, ix_lst, ix_tup, decide_eq_true_eq, decide_eq_false_iff_not]
              exact no (by rw [e0, z]; rfl)
            · rw [ws_nil]
              unfold s_are_rows_1
              simp only [ws_cons, ws_nil, ws_ife, ws_set, ws_sub, ws_ret_, ws_expr, ws_pass, ws_retn, ws_brk, ws_cnt, x_cmp, x_cmp2, x_ix, x_int, x_bl, x_str, x_non, x_npart, x_bin, x_neg, x_not, x_and, x_or, x_ife, x_lst, x_tup, x_call, x_bi, x_thaw, x_glob, ws_nilE, ws_consE, y_var, List.getElem?_cons_zero, List.getElem?_cons_succ, Option.some.injEq, exists_eq_left', List.set_cons_zero, List.set_cons_succ, c_gt, c_lt, c_le, c_ge, c_eq, c_ne, t_bl, t_int, n_add, n_sub, n_mul, n_mod, n_fdiv, n_pow, n_neg, ix_lst, ix_tup, decide_eq_true_eq, decide_eq_false_iff_not, x_lc, i_exD]
              obtain ⟨a0, a1⟩ := head_at (xs := xs) (by omega)
              have rows : ∀ x ∈ xs, ∃ ys, x = .lst ys := fun x hx => row_lst (by
                have := List.all_eq_true.mp (by simpa [List.all_map] using z : xs.all isRow = true) x hx
                exact this)
              obtain ⟨hs, he⟩ := rows _ a1
              refine ⟨_, rfl, lc_ask (f := fun r => decide (lenP r = lenP (xs.headD .non))) hl (fun x hx R r => ?_) ?_⟩
              · obtain ⟨ys, rfl⟩ := rows x hx
                simp only [ws_ife, ws_set, ws_sub, ws_ret_, ws_expr, ws_pass, ws_retn, ws_brk, ws_cnt, x_cmp, x_cmp2, x_ix, x_int, x_bl, x_str, x_non, x_npart, x_bin, x_neg, x_not, x_and, x_or, x_ife, x_lst, x_tup, x_call, x_bi, x_thaw, x_glob, ws_nilE, ws_consE, y_var, List.getElem?_cons_zero, List.getElem?_cons_succ, Option.some.injEq, exists_eq_left', List.set_cons_zero, List.set_cons_succ, c_gt, c_lt, c_le, c_ge, c_eq, c_ne, t_bl, t_int, n_add, n_sub, n_mul, n_mod, n_fdiv, n_pow, n_neg, ix_lst, ix_tup, decide_eq_true_eq, decide_eq_false_iff_not, wipe1, len_lst, a0, he] at r ⊢
                have : decide (((ys.length : Nat) : Int) = ((hs.length : Nat) : Int)) = decide (lenP (.lst ys) = lenP (.lst hs)) := by
                  show _ = decide (ys.length = hs.length)
                  by_cases e : ys.length = hs.length
                  · rw [decide_eq_true e, decide_eq_true (by omega)]
                  · rw [decide_eq_false e, decide_eq_false (by omega)]
                rw [this]; exact r
              · rw [all_lst]
                refine ⟨_, rfl, ?_⟩
                rw [take_self]
                have : areRows (.lst xs) = (xs.map fun r => decide (lenP r = lenP (xs.headD .non))).all id := by
                  rw [e0, z, List.all_map]; rfl
                rw [← this]; exact q
        · have e : areRows (.lst xs) = false := by rw [areRows_lst, decide_eq_false (by omega : ¬ xs.length ≤ 6)]; simp
          simp only [ws_ife, ws_set, ws_sub, ws_ret_, ws_expr, ws_pass, ws_retn, ws_brk, ws_cnt, x_cmp, x_cmp2, x_ix, x_int, x_bl, x_str, x_non, x_npart, x_bin, x_neg, x_not, x_and, x_or, x_ife, x_lst, x_tup, x_call, x_bi, x_thaw, x_glob, ws_nilE, ws_consE, y_var, List.getElem?_cons_zero, List.getElem?_cons_succ, Option.some.injEq, exists_eq_left', List.set_cons_zero, List.set_cons_succ, c_gt, c_lt, c_le, c_ge, c_eq, c_ne, t_bl, t_int, n_add, n_sub, n_mul, n_mod, n_fdiv, n_pow, n_neg, ix_lst, ix_tup, decide_eq_true_eq, decide_eq_false_iff_not, ws_cons, ws_nil, len_lst, g_most, x_lc, i_exD, h1, h2, true_implies, not_true_eq_false, false_implies, and_true, not_false_eq_true, true_and, decide_false, Bool.false_eq_true, Bool.not_true, Bool.not_false, decide_true, Bool.true_eq_false]
          exact no e
      · have e : areRows (.lst xs) = false := by rw [areRows_lst, decide_eq_false (by omega : ¬ 1 ≤ xs.length)]; simp
        simp only [ws_ife, ws_set, ws_sub, ws_ret_, ws_expr, ws_pass, ws_retn, ws_brk, ws_cnt, x_cmp, x_cmp2, x_ix, x_int, x_bl, x_str, x_non, x_npart, x_bin, x_neg, x_not, x_and, x_or, x_ife, x_lst, x_tup, x_call, x_bi, x_thaw, x_glob, ws_nilE, ws_consE, y_var, List.getElem?_cons_zero, List.getElem?_cons_succ, Option.some.injEq, exists_eq_left', List.set_cons_zero, List.set_cons_succ, c_gt, c_lt, c_le, c_ge, c_eq, c_ne, t_bl, t_int, n_add, n_sub, n_mul, n_mod, n_fdiv, n_pow, n_neg, ix_lst, ix_tup, decide_eq_true_eq, decide_eq_false_iff_not, ws_cons, ws_nil, len_lst, g_most, x_lc, i_exD, h1, true_implies, not_true_eq_false, false_implies, and_true, not_false_eq_true, true_and, Bool.false_eq_true, Bool.not_true, Bool.not_false, decide_true, Bool.true_eq_false, decide_false]
        exact no e
    | _ => cases hL
end Law

set_option Elab.async false
set_option maxRecDepth 10000
set_option autoImplicit false
set_option linter.unusedVariables false
set_option linter.unusedSimpArgs false
namespace Law
open PySem VM
open L2 (atI ixN)
variable {E : Exc → Sto → Prop} {n b l N : Nat} {μ : Sto} {Q : VM.D × Nat → Sto → Prop}
theorem eq_nil {k w : Nat} {ys : List VM.D} (h : ∀ d ∈ ys, Pl k w d) (hk : k < 8) : cmpD .Eq (.lst ys) (.lst []) μ = some ys.isEmpty := by
  show eqS μ (.lst ys) (.lst []) = _
  obtain ⟨ps, g1, g2, g3, g4, g5, g6, g7⟩ := allShw (n := 8) (k := k) (w := w) fun d hd => (h d hd).py (by omega)
  have e1 : toPy μ 9 (.lst ys) = some (.list ps) := by show (ys.mapM (toPy μ 8)).map PyData.list = _; rw [g1]; rfl
  have e2 : toPy μ 9 (.lst []) = some (.list []) := rfl
  unfold eqS
  simp only [e1, e2]
  have s1 : SeqAt.shaped (.list ps) = true := by
    unfold SeqAt.shaped
    rw [Bool.and_eq_true]
    exact ⟨by simp only [PyData.canLay0]; exact g6, decide_eq_true (by simp only [PyData.depth]; omega)⟩
  have s2 : SeqAt.shaped (.list []) = true := by decide +kernel
  rw [s1, s2]
  simp only [Bool.and_self, if_true, Option.some.injEq]
  cases ps with
  | nil =>
    have : ys = [] := by cases ys with | nil => rfl | cons y ys => simp at g2
    subst this
    decide +kernel
  | cons p ps =>
    cases ys with
    | nil => simp at g2
    | cons y ys => simp [PyData.eqv, PyData.eqvAll]
theorem ne_nil {k w : Nat} {ys : List VM.D} (h : ∀ d ∈ ys, Pl k w d) (hk : k < 8) : cmpD .NotEq (.lst ys) (.lst []) μ = some (!ys.isEmpty) := by
  show (cmpD .Eq (.lst ys) (.lst []) μ).map (fun k => !k) = _
  rw [eq_nil h hk]; rfl
theorem fm_empty {α : Type} {f : α → Bool} (xs : List α) : (xs.filterMap fun x => if f x then none else some x).isEmpty = xs.all f := by
  induction xs with
  | nil => rfl
  | cons x xs ih =>
    rw [List.filterMap_cons, List.all_cons]
    cases e : f x with
    | true => simp [e, ih]
    | false => simp [e]
theorem fm_emptyP {α : Type} {p : α → Prop} [DecidablePred p] (xs : List α) : (xs.filterMap fun x => if p x then none else some x).isEmpty = xs.all fun x => decide (p x) := by
  induction xs with
  | nil => rfl
  | cons x xs ih =>
    rw [List.filterMap_cons, List.all_cons]
    by_cases e : p x
    · simp [e, ih]
    · simp [e]
theorem fm_subP {α : Type} {p : α → Prop} [DecidablePred p] {xs : List α} {x : α} (h : x ∈ xs.filterMap fun x => if p x then none else some x) : x ∈ xs := by
  obtain ⟨y, hy, e⟩ := List.mem_filterMap.mp h
  split at e
  · cases e
  · cases e; exact hy
theorem fm_sub {α : Type} {f : α → Bool} {xs : List α} {x : α} (h : x ∈ xs.filterMap fun x => if f x then none else some x) : x ∈ xs := by
  obtain ⟨y, hy, e⟩ := List.mem_filterMap.mp h
  split at e
  · cases e
  · cases e; exact hy
theorem law_are_rows {k w : Nat} {d : VM.D} (h : Pl k w d) (hk : k ≤ 8) (hw : w ≤ 16000000) (q : Q (.bl (areRows d), 0) μ) : Wp ((tb P (n + 3)).call "_law_are_rows" b [d] μ) Q E := by
  refine (wp_call q__law_are_rows).mpr ((wp_run (by rfl)).mpr ?_)
  unfold b__law_are_rows s__law_are_rows_0
  have no : areRows d = false → ∃ x, frzTop μ.length (.bl false) 0 μ = some x ∧ Q x (μ.take μ.length) := fun e => ⟨_, rfl, by rw [take_self, ← e]; exact q⟩
  simp only [List.map_cons, List.map_nil, List.replicate, List.cons_append, List.nil_append]
  rw [ws_cons]
  simp only [ws_ife, ws_set, ws_sub, ws_ret_, ws_expr, ws_pass, ws_retn, ws_brk, ws_cnt, x_cmp, x_cmp2, x_ix, x_int, x_bl, x_str, x_non, x_npart, x_bin, x_neg, x_not, x_and, x_or, x_ife, x_lst, x_tup, x_call, x_bi, x_thaw, x_glob, ws_nilE, ws_consE, y_var, List.getElem?_cons_zero, List.getElem?_cons_succ, Option.some.injEq, exists_eq_left', List.set_cons_zero, List.set_cons_succ, c_gt, c_lt, c_le, c_ge, c_eq, c_ne, t_bl, t_int, n_add, n_sub, n_mul, n_mod, n_fdiv, n_pow, n_neg, ix_lst, ix_tup, decide_eq_true_eq, decide_eq_false_iff_not, g_list, isin_of (Pl.ty h) (isa_list h)]
  cases hL : isL d with
  | false =>
    have e : areRows d = false := by cases d <;> first | rfl | cases hL
    simp only [ws_ife, ws_set, ws_sub, ws_ret_, ws_expr, ws_pass, ws_retn, ws_brk, ws_cnt, x_cmp, x_cmp2, x_ix, x_int, x_bl, x_str, x_non, x_npart, x_bin, x_neg, x_not, x_and, x_or, x_ife, x_lst, x_tup, x_call, x_bi, x_thaw, x_glob, ws_nilE, ws_consE, y_var, List.getElem?_cons_zero, List.getElem?_cons_succ, Option.some.injEq, exists_eq_left', List.set_cons_zero, List.set_cons_succ, c_gt, c_lt, c_le, c_ge, c_eq, c_ne, t_bl, t_int, n_add, n_sub, n_mul, n_mod, n_fdiv, n_pow, n_neg, ix_lst, ix_tup, decide_eq_true_eq, decide_eq_false_iff_not, ws_cons, ws_nil, Bool.not_false, Bool.true_eq_false, false_implies, and_true, true_implies, true_and, Bool.not_true]
    exact no e
  | true =>
    cases d with
    | lst xs =>
      have hl := pl_len h hw
      have sub : ∀ x ∈ xs, ∃ k' w', Pl k' w' x ∧ k' < 8 ∧ w' ≤ 16000000 := by
        intro x hx
        cases h with
        | lst _ h1 h2 =>
          rename_i wi
          have : 1 * (wi + 2) ≤ xs.length * (wi + 2) := Nat.mul_le_mul_right _ (by have := List.length_pos_of_mem hx; omega)
          exact ⟨_, _, h1 x hx, by omega, by omega⟩
      by_cases h1 : (0 : Int) < xs.length
      · by_cases h2 : (xs.length : Int) < 7
        · simp only [ws_ife, ws_set, ws_sub, ws_ret_, ws_expr, ws_pass, ws_retn, ws_brk, ws_cnt, x_cmp, x_cmp2, x_ix, x_int, x_bl, x_str, x_non, x_npart, x_bin, x_neg, x_not, x_and, x_or, x_ife, x_lst, x_tup, x_call, x_bi, x_thaw, x_glob, ws_nilE, ws_consE, y_var, List.getElem?_cons_zero, List.getElem?_cons_succ, Option.some.injEq, exists_eq_left', List.set_cons_zero, List.set_cons_succ, c_gt, c_lt, c_le, c_ge, c_eq, c_ne, t_bl, t_int, n_add, n_sub, n_mul, n_mod, n_fdiv, n_pow, n_neg, ix_lst, ix_tup, decide_eq_true_eq, decide_eq_false_iff_not, ws_cons, ws_nil, len_lst, h1, h2, true_implies, not_true_eq_false, false_implies, and_true, Bool.not_true, Bool.false_eq_true, Bool.true_eq_false, true_and, decide_true]
          unfold s__law_are_rows_1
          refine ws_for ?_
          simp only [ws_ife, ws_set, ws_sub, ws_ret_, ws_expr, ws_pass, ws_retn, ws_brk, ws_cnt, x_cmp, x_cmp2, x_ix, x_int, x_bl, x_str, x_non, x_npart, x_bin, x_neg, x_not, x_and, x_or, x_ife, x_lst, x_tup, x_call, x_bi, x_thaw, x_glob, ws_nilE, ws_consE, y_var, List.getElem?_cons_zero, List.getElem?_cons_succ, Option.some.injEq, exists_eq_left', List.set_cons_zero, List.set_cons_succ, c_gt, c_lt, c_le, c_ge, c_eq, c_ne, t_bl, t_int, n_add, n_sub, n_mul, n_mod, n_fdiv, n_pow, n_neg, ix_lst, ix_tup, decide_eq_true_eq, decide_eq_false_iff_not, i_exD]
          refine ⟨_, rfl, xs, fun i ρ' μ' => μ' = μ ∧ (∃ o, ρ' = [some (.lst xs), o, none]) ∧ (xs.take i).all isRow = true, fun _ _ _ _ => src_data _, by rfl, ⟨rfl, ⟨_, rfl⟩, by simp⟩, fun i x ρ' μ' hx hI => ?_, fun ρ' μ' hI => ?_⟩
          · obtain ⟨rfl, ⟨o, rfl⟩, ha⟩ := hI
            have hm := List.mem_of_getElem? hx
            obtain ⟨k', w', p, pk, pw⟩ := sub x hm
            have bad : isRow x = false → areRows (.lst xs) = false := fun z => by
              rw [areRows_lst]
              have : xs.all isRow = false := List.all_eq_false.mpr ⟨x, hm, by rw [z]; simp⟩
              rw [this]; simp
            have good : isRow x = true → (xs.take (i + 1)).all isRow = true := fun z => by
              rw [List.take_add_one, hx, List.all_append, ha]; simp [z]
            rw [ws_cons]
            simp only [ws_ife, ws_set, ws_sub, ws_ret_, ws_expr, ws_pass, ws_retn, ws_brk, ws_cnt, x_cmp, x_cmp2, x_ix, x_int, x_bl, x_str, x_non, x_npart, x_bin, x_neg, x_not, x_and, x_or, x_ife, x_lst, x_tup, x_call, x_bi, x_thaw, x_glob, ws_nilE, ws_consE, y_var, List.getElem?_cons_zero, List.getElem?_cons_succ, Option.some.injEq, exists_eq_left', List.set_cons_zero, List.set_cons_succ, c_gt, c_lt, c_le, c_ge, c_eq, c_ne, t_bl, t_int, n_add, n_sub, n_mul, n_mod, n_fdiv, n_pow, n_neg, ix_lst, ix_tup, decide_eq_true_eq, decide_eq_false_iff_not, g_list, isin_of (Pl.ty p) (isa_list p)]
            cases hL2 : isL x with
            | false =>
              have e : isRow x = false := by cases x <;> first | rfl | cases hL2
              simp only [ws_ife, ws_set, ws_sub, ws_ret_, ws_expr, ws_pass, ws_retn, ws_brk, ws_cnt, x_cmp, x_cmp2, x_ix, x_int, x_bl, x_str, x_non, x_npart, x_bin, x_neg, x_not, x_and, x_or, x_ife, x_lst, x_tup, x_call, x_bi, x_thaw, x_glob, ws_nilE, ws_consE, y_var, List.getElem?_cons_zero, List.getElem?_cons_succ, Option.some.injEq, exists_eq_left', List.set_cons_zero, List.set_cons_succ, c_gt, c_lt, c_le, c_ge, c_eq, c_ne, t_bl, t_int, n_add, n_sub, n_mul, n_mod, n_fdiv, n_pow, n_neg, ix_lst, ix_tup, decide_eq_true_eq, decide_eq_false_iff_not, ws_cons, ws_nil, Bool.not_false, Bool.true_eq_false, false_implies, and_true, true_implies, true_and, Bool.not_true]
              exact no (bad e)
            | true =>
              cases x with
              | lst ys =>
                have hl2 := pl_len p pw
                have sub2 : ∀ y ∈ ys, ∃ k' w', Pl k' w' y ∧ k' < 8 := by
                  intro y hy
                  cases p with
                  | lst _ h1 h2 => exact ⟨_, _, h1 y hy, by omega⟩
                by_cases g1 : (0 : Int) < ys.length
                · by_cases g2 : (ys.length : Int) < 7
                  · simp only [ws_ife, ws_set, ws_sub, ws_ret_, ws_expr, ws_pass, ws_retn, ws_brk, ws_cnt, x_cmp, x_cmp2, x_ix, x_int, x_bl, x_str, x_non, x_npart, x_bin, x_neg, x_not, x_and, x_or, x_ife, x_lst, x_tup, x_call, x_bi, x_thaw, x_glob, ws_nilE, ws_consE, y_var, List.getElem?_cons_zero, List.getElem?_cons_succ, Option.some.injEq, exists_eq_left', List.set_cons_zero, List.set_cons_succ, c_gt, c_lt, c_le, c_ge, c_eq, c_ne, t_bl, t_int, n_add, n_sub, n_mul, n_mod, n_fdiv, n_pow, n_neg, ix_lst, ix_tup, decide_eq_true_eq, decide_eq_false_iff_not, ws_cons, ws_nil, len_lst, g1, g2, true_implies, not_true_eq_false, false_implies, and_true, Bool.not_true, Bool.false_eq_true, Bool.true_eq_false, true_and, decide_true, x_lc, i_exD]
                    have er : isRow (.lst ys) = ys.all isW := by
                      rw [isRow_lst, decide_eq_true (by omega : 1 ≤ ys.length), decide_eq_true (by omega : ys.length ≤ 6)]; rfl
                    refine ⟨_, rfl, wp_lcPure (xs := ys) (fun y => if isW y then none else some y) (fun _ => src_data _) (by rfl) hl2 (fun y hy => ?_) ?_⟩
                    · obtain ⟨k2, w2, p2, _⟩ := sub2 y hy
                      simp only [ws_ife, ws_set, ws_sub, ws_ret_, ws_expr, ws_pass, ws_retn, ws_brk, ws_cnt, x_cmp, x_cmp2, x_ix, x_int, x_bl, x_str, x_non, x_npart, x_bin, x_neg, x_not, x_and, x_or, x_ife, x_lst, x_tup, x_call, x_bi, x_thaw, x_glob, ws_nilE, ws_consE, y_var, List.getElem?_cons_zero, List.getElem?_cons_succ, Option.some.injEq, exists_eq_left', List.set_cons_zero, List.set_cons_succ, c_gt, c_lt, c_le, c_ge, c_eq, c_ne, t_bl, t_int, n_add, n_sub, n_mul, n_mod, n_fdiv, n_pow, n_neg, ix_lst, ix_tup, decide_eq_true_eq, decide_eq_false_iff_not, lc_name, wipe1]
                      refine law_whole p2 ?_
                      simp only [ws_ife, ws_set, ws_sub, ws_ret_, ws_expr, ws_pass, ws_retn, ws_brk, ws_cnt, x_cmp, x_cmp2, x_ix, x_int, x_bl, x_str, x_non, x_npart, x_bin, x_neg, x_not, x_and, x_or, x_ife, x_lst, x_tup, x_call, x_bi, x_thaw, x_glob, ws_nilE, ws_consE, y_var, List.getElem?_cons_zero, List.getElem?_cons_succ, Option.some.injEq, exists_eq_left', List.set_cons_zero, List.set_cons_succ, c_gt, c_lt, c_le, c_ge, c_eq, c_ne, t_bl, t_int, n_add, n_sub, n_mul, n_mod, n_fdiv, n_pow, n_neg, ix_lst, ix_tup, decide_eq_true_eq, decide_eq_false_iff_not]
                      cases isW y <;> simp
                    · have all2 : ∃ kk ww, kk < 8 ∧ ∀ y ∈ ys.filterMap (fun y => if isW y then none else some y), Pl kk ww y := by
                        cases p with
                        | lst _ h1 h2 => exact ⟨_, _, by omega, fun y hy => h1 y (fm_sub hy)⟩
                      obtain ⟨kk, ww, hkk, all2⟩ := all2
                      simp only [ws_ife, ws_set, ws_sub, ws_ret_, ws_expr, ws_pass, ws_retn, ws_brk, ws_cnt, x_cmp, x_cmp2, x_ix, x_int, x_bl, x_str, x_non, x_npart, x_bin, x_neg, x_not, x_and, x_or, x_ife, x_lst, x_tup, x_call, x_bi, x_thaw, x_glob, ws_nilE, ws_consE, y_var, List.getElem?_cons_zero, List.getElem?_cons_succ, Option.some.injEq, exists_eq_left', List.set_cons_zero, List.set_cons_succ, c_gt, c_lt, c_le, c_ge, c_eq, c_ne, t_bl, t_int, n_add, n_sub, n_mul, n_mod, n_fdiv, n_pow, n_neg, ix_lst, ix_tup, decide_eq_true_eq, decide_eq_false_iff_not, List.length_nil, ne_nil all2 hkk, fm_empty]
                      refine ⟨by decide, fun z => ?_, fun z => ?_⟩
                      · simp only [Bool.not_eq_true'] at z
                        exact no (bad (er.trans z))
                      · simp only [Bool.not_eq_false'] at z
                        exact ⟨trivial, ⟨_, rfl⟩, good (er.trans z)⟩
                  · have e : isRow (.lst ys) = false := by rw [isRow_lst, decide_eq_false (by omega : ¬ ys.length ≤ 6)]; simp
                    simp only [ws_ife, ws_set, ws_sub, ws_ret_, ws_expr, ws_pass, ws_retn, ws_brk, ws_cnt, x_cmp, x_cmp2, x_ix, x_int, x_bl, x_str, x_non, x_npart, x_bin, x_neg, x_not, x_and, x_or, x_ife, x_lst, x_tup, x_call, x_bi, x_thaw, x_glob, ws_nilE, ws_consE, y_var, List.getElem?_cons_zero, List.getElem?_cons_succ, Option.some.injEq, exists_eq_left', List.set_cons_zero, List.set_cons_succ, c_gt, c_lt, c_le, c_ge, c_eq, c_ne, t_bl, t_int, n_add, n_sub, n_mul, n_mod, n_fdiv, n_pow, n_neg, ix_lst, ix_tup, decide_eq_true_eq, decide_eq_false_iff_not, ws_cons, ws_nil, len_lst, g1, g2, true_implies, not_true_eq_false, false_implies, and_true, not_false_eq_true, true_and, decide_false, Bool.false_eq_true, Bool.not_true, Bool.not_false, decide_true, Bool.true_eq_false]
                    exact no (bad e)
                · have e : isRow (.lst ys) = false := by rw [isRow_lst, decide_eq_false (by omega : ¬ 1 ≤ ys.length)]; simp
                  simp only [ws_ife, ws_set, ws_sub, ws_ret_, ws_expr, ws_pass, ws_retn, ws_brk, ws_cnt, x_cmp, x_cmp2, x_ix, x_int, x_bl, x_str, x_non, x_npart, x_bin, x_neg, x_not, x_and, x_or, x_ife, x_lst, x_tup, x_call, x_bi, x_thaw, x_glob, ws_nilE, ws_consE, y_var, List.getElem?_cons_zero, List.getElem?_cons_succ, Option.some.injEq, exists_eq_left', List.set_cons_zero, List.set_cons_succ, c_gt, c_lt, c_le, c_ge, c_eq, c_ne, t_bl, t_int, n_add, n_sub, n_mul, n_mod, n_fdiv, n_pow, n_neg, ix_lst, ix_tup, decide_eq_true_eq, decide_eq_false_iff_not, ws_cons, ws_nil, len_lst, g1, true_implies, not_true_eq_false, false_implies, and_true, not_false_eq_true, true_and, decide_false, Bool.false_eq_true, Bool.not_true, Bool.not_false, decide_true, Bool.true_eq_false]
                  exact no (bad e)
              | _ => cases hL2
          · obtain ⟨rfl, ⟨o, rfl⟩, ha⟩ := hI
            rw [List.take_length] at ha
            unfold s__law_are_rows_2
            simp only [ws_ife, ws_set, ws_sub, ws_ret_, ws_expr, ws_pass, ws_retn, ws_brk, ws_cnt, x_cmp, x_cmp2, x_ix, x_int, x_bl, x_str, x_non, x_npart, x_bin, x_neg, x_not, x_and, x_or, x_ife, x_lst, x_tup, x_call, x_bi, x_thaw, x_glob, ws_nilE, ws_consE, y_var, List.getElem?_cons_zero, List.getElem?_cons_succ, Option.some.injEq, exists_eq_left', List.set_cons_zero, List.set_cons_succ, c_gt, c_lt, c_le, c_ge, c_eq, c_ne, t_bl, t_int, n_add, n_sub, n_mul, n_mod, n_fdiv, n_pow, n_neg, ix_lst, ix_tup, decide_eq_true_eq, decide_eq_false_iff_not, x_lc, i_exD]
            obtain ⟨a0, a1⟩ := head_at (xs := xs) (by omega)
            have rows : ∀ x ∈ xs, ∃ ys, x = .lst ys := fun x hx => row_lst (List.all_eq_true.mp ha x hx)
            obtain ⟨hs, he⟩ := rows _ a1
            refine ⟨_, rfl, wp_lcPure (xs := xs) (fun r => if lenP r = lenP (xs.headD .non) then none else some r) (fun _ => src_data _) (by rfl) hl (fun x hx => ?_) ?_⟩
            · obtain ⟨ys, rfl⟩ := rows x hx
              simp only [ws_ife, ws_set, ws_sub, ws_ret_, ws_expr, ws_pass, ws_retn, ws_brk, ws_cnt, x_cmp, x_cmp2, x_ix, x_int, x_bl, x_str, x_non, x_npart, x_bin, x_neg, x_not, x_and, x_or, x_ife, x_lst, x_tup, x_call, x_bi, x_thaw, x_glob, ws_nilE, ws_consE, y_var, List.getElem?_cons_zero, List.getElem?_cons_succ, Option.some.injEq, exists_eq_left', List.set_cons_zero, List.set_cons_succ, c_gt, c_lt, c_le, c_ge, c_eq, c_ne, t_bl, t_int, n_add, n_sub, n_mul, n_mod, n_fdiv, n_pow, n_neg, ix_lst, ix_tup, decide_eq_true_eq, decide_eq_false_iff_not, lc_name, wipe1, len_lst, a0, he]
              have e : lenP (.lst ys) = ys.length := rfl
              have e2 : lenP (.lst hs) = hs.length := rfl
              rw [e, e2]
              refine ⟨fun z => ?_, fun z => ?_⟩
              · rw [if_neg (by omega)]; exact ⟨trivial, rfl⟩
              · rw [if_pos (by omega)]; exact ⟨trivial, rfl⟩
            · have all2 : ∃ kk ww, kk < 8 ∧ ∀ y ∈ xs.filterMap (fun r => if lenP r = lenP (xs.headD .non) then none else some r), Pl kk ww y := by
                cases h with
                | lst _ h1 h2 => exact ⟨_, _, by omega, fun y hy => h1 y (fm_subP hy)⟩
              obtain ⟨kk, ww, hkk, all2⟩ := all2
              simp only [ws_ife, ws_set, ws_sub, ws_ret_, ws_expr, ws_pass, ws_retn, ws_brk, ws_cnt, x_cmp, x_cmp2, x_ix, x_int, x_bl, x_str, x_non, x_npart, x_bin, x_neg, x_not, x_and, x_or, x_ife, x_lst, x_tup, x_call, x_bi, x_thaw, x_glob, ws_nilE, ws_consE, y_var, List.getElem?_cons_zero, List.getElem?_cons_succ, Option.some.injEq, exists_eq_left', List.set_cons_zero, List.set_cons_succ, c_gt, c_lt, c_le, c_ge, c_eq, c_ne, t_bl, t_int, n_add, n_sub, n_mul, n_mod, n_fdiv, n_pow, n_neg, ix_lst, ix_tup, decide_eq_true_eq, decide_eq_false_iff_not, List.length_nil, eq_nil all2 hkk, fm_emptyP]
              refine ⟨by decide, _, rfl, ?_⟩
              rw [take_self]
              have : areRows (.lst xs) = xs.all (fun r => decide (lenP r = lenP (xs.headD .non))) := by
                rw [areRows_lst, decide_eq_true (by omega : 1 ≤ xs.length), decide_eq_true (by omega : xs.length ≤ 6), ha]; rfl
              rw [← this]; exact q
        · have e : areRows (.lst xs) = false := by rw [areRows_lst, decide_eq_false (by omega : ¬ xs.length ≤ 6)]; simp
          simp only [ws_ife, ws_set, ws_sub, ws_ret_, ws_expr, ws_pass, ws_retn, ws_brk, ws_cnt, x_cmp, x_cmp2, x_ix, x_int, x_bl, x_str, x_non, x_npart, x_bin, x_neg, x_not, x_and, x_or, x_ife, x_lst, x_tup, x_call, x_bi, x_thaw, x_glob, ws_nilE, ws_consE, y_var, List.getElem?_cons_zero, List.getElem?_cons_succ, Option.some.injEq, exists_eq_left', List.set_cons_zero, List.set_cons_succ, c_gt, c_lt, c_le, c_ge, c_eq, c_ne, t_bl, t_int, n_add, n_sub, n_mul, n_mod, n_fdiv, n_pow, n_neg, ix_lst, ix_tup, decide_eq_true_eq, decide_eq_false_iff_not, ws_cons, ws_nil, len_lst, h1, h2, true_implies, not_true_eq_false, false_implies, and_true, not_false_eq_true, true_and, decide_false, Bool.false_eq_true, Bool.not_true, Bool.not_false, decide_true, Bool.true_eq_false]
          exact no e
      · have e : areRows (.lst xs) = false := by rw [areRows_lst, decide_eq_false (by omega : ¬ 1 ≤ xs.length)]; simp
        simp only [ws_ife, ws_set, ws_sub, ws_ret_, ws_expr, ws_pass, ws_retn, ws_brk, ws_cnt, x_cmp, x_cmp2, x_ix, x_int, x_bl, x_str, x_non, x_npart, x_bin, x_neg, x_not, x_and, x_or, x_ife, x_lst, x_tup, x_call, x_bi, x_thaw, x_glob, ws_nilE, ws_consE, y_var, List.getElem?_cons_zero, List.getElem?_cons_succ, Option.some.injEq, exists_eq_left', List.set_cons_zero, List.set_cons_succ, c_gt, c_lt, c_le, c_ge, c_eq, c_ne, t_bl, t_int, n_add, n_sub, n_mul, n_mod, n_fdiv, n_pow, n_neg, ix_lst, ix_tup, decide_eq_true_eq, decide_eq_false_iff_not, ws_cons, ws_nil, len_lst, h1, true_implies, not_true_eq_false, false_implies, and_true, not_false_eq_true, true_and, Bool.false_eq_true, Bool.not_true, Bool.not_false, decide_true, Bool.true_eq_false, decide_false]
        exact no e
    | _ => cases hL
end Law

set_option Elab.async false
set_option maxRecDepth 10000
set_option autoImplicit false
set_option linter.unusedVariables false
set_option linter.unusedSimpArgs false
namespace Law
open PySem VM
open L2 (atI ixN)
variable {E : Exc → Sto → Prop} {n b l N : Nat} {μ : Sto} {Q : VM.D × Nat → Sto → Prop}
theorem size (hd : Dk μ l N) (hN : N ≤ 900000) (k : ∀ (many long : Nat) μ', 1 ≤ many → many ≤ long → long ≤ 6 → Dk μ' l (N + 2) → Fr μ μ' l → Q (.tup [.int many, .int long], 0) μ') : Wp ((tb P (n + 2)).call "_law_size" b [.cell l] μ) Q E := by
  refine (wp_call q__law_size).mpr ((wp_run (by rfl)).mpr ?_)
  unfold b__law_size s__law_size_0 s__law_size_1
  simp only [List.map_cons, List.map_nil, List.replicate, List.cons_append, List.nil_append]
  rw [ws_cons]
  simp only [ws_ife, ws_set, ws_sub, ws_ret_, ws_expr, ws_pass, ws_retn, ws_brk, ws_cnt, x_cmp, x_cmp2, x_ix, x_int, x_bl, x_str, x_non, x_npart, x_bin, x_neg, x_not, x_and, x_or, x_ife, x_lst, x_tup, x_call, x_bi, x_thaw, x_glob, ws_nilE, ws_consE, y_var, List.getElem?_cons_zero, List.getElem?_cons_succ, Option.some.injEq, exists_eq_left', List.set_cons_zero, List.set_cons_succ, c_gt, c_lt, c_le, c_ge, c_eq, c_ne, t_bl, t_int, n_add, n_sub, n_mul, n_mod, n_fdiv, n_pow, n_neg, ix_lst, ix_tup, decide_eq_true_eq, decide_eq_false_iff_not]
  refine pick dr.pick hd (by omega) (by decide) (by decide) fun p μ1 p0 p1 d1 f1 => ?_
  simp only [ws_ife, ws_set, ws_sub, ws_ret_, ws_expr, ws_pass, ws_retn, ws_brk, ws_cnt, x_cmp, x_cmp2, x_ix, x_int, x_bl, x_str, x_non, x_npart, x_bin, x_neg, x_not, x_and, x_or, x_ife, x_lst, x_tup, x_call, x_bi, x_thaw, x_glob, ws_nilE, ws_consE, y_var, List.getElem?_cons_zero, List.getElem?_cons_succ, Option.some.injEq, exists_eq_left', List.set_cons_zero, List.set_cons_succ, c_gt, c_lt, c_le, c_ge, c_eq, c_ne, t_bl, t_int, n_add, n_sub, n_mul, n_mod, n_fdiv, n_pow, n_neg, ix_lst, ix_tup, decide_eq_true_eq, decide_eq_false_iff_not, ws_cons, ws_nil]
  refine pick dr.pick d1 (by omega) (by omega) (by omega) fun r μ2 r0 r1 d2 f2 => ?_
  simp only [ws_ife, ws_set, ws_sub, ws_ret_, ws_expr, ws_pass, ws_retn, ws_brk, ws_cnt, x_cmp, x_cmp2, x_ix, x_int, x_bl, x_str, x_non, x_npart, x_bin, x_neg, x_not, x_and, x_or, x_ife, x_lst, x_tup, x_call, x_bi, x_thaw, x_glob, ws_nilE, ws_consE, y_var, List.getElem?_cons_zero, List.getElem?_cons_succ, Option.some.injEq, exists_eq_left', List.set_cons_zero, List.set_cons_succ, c_gt, c_lt, c_le, c_ge, c_eq, c_ne, t_bl, t_int, n_add, n_sub, n_mul, n_mod, n_fdiv, n_pow, n_neg, ix_lst, ix_tup, decide_eq_true_eq, decide_eq_false_iff_not, List.length_cons, List.length_nil]
  refine ⟨by decide, _, rfl, ?_⟩
  rw [(f1.trans f2).take]
  have e1 : (1 + r) = (((1 + r).toNat : Nat) : Int) := by omega
  have e2 : (1 + p) = (((1 + p).toNat : Nat) : Int) := by omega
  rw [e1, e2]
  exact k _ _ _ (by omega) (by omega) (by omega) d2 (f1.trans f2)
/-! bent -/
def El (μ : Sto) (n0 f R : Nat) (d : VM.D) : Prop := (∃ c ys, d = .cell c ∧ n0 ≤ c ∧ c ≠ f ∧ μ[c]? = some (.lst ys) ∧ ys.length ≤ R ∧ ∀ y ∈ ys, Pl 3 612 y) ∨ (Pl 4 (R * 614 + 3) d ∧ isL d = false)
structure Bt (μ0 μ : Sto) (l N f L R : Nat) : Prop where
  lo : μ0.length ≤ f
  fr : ∀ k, k < μ0.length → k ≠ l → μ[k]? = μ0[k]?
  dk : Dk μ l N
  len : μ0.length ≤ μ.length
  ds : ∃ ds, μ[f]? = some (.lst ds) ∧ 1 ≤ ds.length ∧ ds.length ≤ L ∧ ∀ d ∈ ds, El μ μ0.length f R d
section
variable {μ0 μ' : Sto} {f L R : Nat}
theorem El.mono {n0 S : Nat} {d : VM.D} (h : El μ n0 f R d) (k : R ≤ S) : El μ n0 f S d := by
  rcases h with ⟨c, ys, h1, h2, h3, h4, h5, h6⟩ | ⟨h1, h2⟩
  · exact .inl ⟨c, ys, h1, h2, h3, h4, by omega, h6⟩
  · exact .inr ⟨h1.mono (Nat.le_refl _) (by have := Nat.mul_le_mul_right 614 k; omega), h2⟩
/-- the cells' contents may change, in their kind -/
theorem El.keep {n0 : Nat} {d : VM.D} (h : El μ n0 f R d) (k : ∀ c ys, n0 ≤ c → c ≠ f → μ[c]? = some (.lst ys) → ys.length ≤ R → (∀ y ∈ ys, Pl 3 612 y) → ∃ zs, μ'[c]? = some (.lst zs) ∧ zs.length ≤ R ∧ ∀ y ∈ zs, Pl 3 612 y) : El μ' n0 f R d := by
  rcases h with ⟨c, ys, h1, h2, h3, h4, h5, h6⟩ | h
  · obtain ⟨zs, g1, g2, g3⟩ := k c ys h2 h3 h4 h5 h6
    exact .inl ⟨c, zs, h1, h2, h3, g1, g2, g3⟩
  · exact .inr h
theorem Bt.step (h : Bt μ0 μ l N f L R) (hl : l < μ0.length) {M : Nat} (fr : Fr μ μ' l) (d : Dk μ' l M) : Bt μ0 μ' l M f L R := by
  obtain ⟨ds, h1, h2, h3, h4⟩ := h.ds
  have lo := h.lo
  refine ⟨h.lo, fun k hk hn => (fr.at_ k hn).trans (h.fr k hk hn), d, by rw [fr.len]; exact h.len, ds, (fr.at_ f (by omega)).trans h1, h2, h3, fun d hd => (h4 d hd).keep fun c ys c1 c2 c3 c4 c5 => ⟨ys, (fr.at_ c (by omega)).trans c3, c4, c5⟩⟩
theorem Bt.mono (h : Bt μ0 μ l N f L R) {M K S : Nat} (a : N ≤ M) (b : L ≤ K) (c : R ≤ S) : Bt μ0 μ l M f K S := by
  obtain ⟨ds, h1, h2, h3, h4⟩ := h.ds
  exact ⟨h.lo, h.fr, h.dk.mono a, h.len, ds, h1, h2, by omega, fun d hd => (h4 d hd).mono c⟩
/-- new cells come behind -/
theorem Bt.more (h : Bt μ0 μ l N f L R) (xs : Sto) : Bt μ0 (μ ++ xs) l N f L R := by
  obtain ⟨ds, h1, h2, h3, h4⟩ := h.ds
  have hf := (List.getElem?_eq_some_iff.mp h1).1
  have le := h.len
  refine ⟨h.lo, fun k hk hn => by rw [List.getElem?_append_left (by omega)]; exact h.fr k hk hn, ?_, by simp; omega, ds, by rw [List.getElem?_append_left hf]; exact h1, h2, h3, fun d hd => (h4 d hd).keep fun c ys c1 c2 c3 c4 c5 => ⟨ys, by rw [List.getElem?_append_left (List.getElem?_eq_some_iff.mp c3).1]; exact c3, c4, c5⟩⟩
  obtain ⟨a, bb, c, e, r⟩ := h.dk
  exact ⟨a, bb, c, by rw [List.getElem?_append_left (List.getElem?_eq_some_iff.mp e).1]; exact e, r⟩
/-- an item is written in a row -/
theorem Bt.row (h : Bt μ0 μ l N f L R) (hl : l < μ0.length) {c : Nat} {ys : List VM.D} (hc : μ0.length ≤ c) (hf : c ≠ f) (hy : ys.length ≤ R) (hp : ∀ y ∈ ys, Pl 3 612 y) (hlt : c < μ.length) : Bt μ0 (μ.set c (.lst ys)) l N f L R := by
  obtain ⟨ds, h1, h2, h3, h4⟩ := h.ds
  have ne : ∀ k, k ≠ c → (μ.set c (.lst ys))[k]? = μ[k]? := fun k hk => List.getElem?_set_ne (Ne.symm hk)
  refine ⟨h.lo, fun k hk hn => (ne k (by omega)).trans (h.fr k hk hn), ?_, by rw [List.length_set]; exact h.len, ds, (ne f (Ne.symm hf)).trans h1, h2, h3, fun d hd => (h4 d hd).keep fun e zs c1 c2 c3 c4 c5 => ?_⟩
  · obtain ⟨a, bb, cc, e, r⟩ := h.dk
    exact ⟨a, bb, cc, (ne l (by omega)).trans e, r⟩
  · by_cases q : e = c
    · subst q; exact ⟨ys, List.getElem?_set_self hlt, hy, hp⟩
    · exact ⟨zs, (ne e q).trans c3, c4, c5⟩
/-- found is written anew -/
theorem Bt.found (h : Bt μ0 μ l N f L R) (hl : l < μ0.length) {es : List VM.D} {K : Nat} (h1 : 1 ≤ es.length) (h2 : es.length ≤ K) (he : ∀ d ∈ es, El μ μ0.length f R d) : Bt μ0 (μ.set f (.lst es)) l N f K R := by
  obtain ⟨ds, g1, _⟩ := h.ds
  have lo := h.lo
  have ne : ∀ k, k ≠ f → (μ.set f (.lst es))[k]? = μ[k]? := fun k hk => List.getElem?_set_ne (Ne.symm hk)
  refine ⟨h.lo, fun k hk hn => (ne k (by omega)).trans (h.fr k hk hn), ?_, by rw [List.length_set]; exact h.len, es, List.getElem?_set_self (List.getElem?_eq_some_iff.mp g1).1, h1, h2, fun d hd => (he d hd).keep fun e zs c1 c2 c3 c4 c5 => ⟨zs, (ne e c2).trans c3, c4, c5⟩⟩
  obtain ⟨a, bb, cc, e, r⟩ := h.dk
  exact ⟨a, bb, cc, (ne l (by omega)).trans e, r⟩
/-- found is another, new cell -/
theorem Bt.new (h : Bt μ0 μ l N f L R) (hl : l < μ0.length) {es : List VM.D} {K S : Nat} (h1 : 1 ≤ es.length) (h2 : es.length ≤ K) (he : ∀ d ∈ es, El μ μ0.length μ.length S d) : Bt μ0 (μ ++ [.lst es]) l N μ.length K S := by
  have le := h.len
  refine ⟨le, fun k hk hn => by rw [List.getElem?_append_left (by omega)]; exact h.fr k hk hn, ?_, by simp; omega, es, by rw [List.getElem?_append_right (Nat.le_refl _)]; simp, h1, h2, fun d hd => (he d hd).keep fun c ys c1 c2 c3 c4 c5 => ⟨ys, by rw [List.getElem?_append_left (List.getElem?_eq_some_iff.mp c3).1]; exact c3, c4, c5⟩⟩
  obtain ⟨a, bb, c, e, r⟩ := h.dk
  exact ⟨a, bb, c, by rw [List.getElem?_append_left (List.getElem?_eq_some_iff.mp e).1]; exact e, r⟩
end
end Law

set_option Elab.async false
set_option maxRecDepth 10000
set_option autoImplicit false
set_option linter.unusedVariables false
set_option linter.unusedSimpArgs false
namespace Law
open PySem VM
open L2 (atI ixN)
variable {E : Exc → Sto → Prop} {n b l N : Nat} {μ : Sto} {Q : VM.D × Nat → Sto → Prop}
section
variable {many long : Nat} {Nn Bk Ct : Ev → Sto → Prop} {Rt : VM.D → Nat → Sto → Prop} {X : Exc → Ev → Sto → Prop} {μ0 : Sto} {f L R : Nat}
structure Rw (rs : List (List Int)) : Prop where
  m1 : 1 ≤ rs.length
  m2 : rs.length ≤ 6
  row : ∀ r ∈ rs, 1 ≤ r.length ∧ r.length ≤ 6 ∧ ∀ x ∈ r, x.natAbs < 10 ^ 61
abbrev evB (l : Nat) (rs : List (List Int)) (f : Nat) (o2 o4 o5 o6 o7 o8 : Option VM.D) : Ev := [some (.cell l), some (rowsD rs), o2, some (.cell f), o4, o5, o6, o7, o8]
theorem bi_list {xs : List VM.D} : Wp (biD "list" [.lst xs] μ) Q E ↔ Q (.lst xs, 1) μ := wp_ok
theorem pl_ints {r : List Int} (h : ∀ x ∈ r, x.natAbs < 10 ^ 61) : ∀ y ∈ r.map VM.D.int, Pl 3 612 y := fun y hy => by
  obtain ⟨x, hx, rfl⟩ := List.mem_map.mp hy
  exact .int x (h x hx) (by decide)
theorem bent_0 {rs : List (List Int)} (hr : Rw rs) (hd : Dk μ l N) (hn : ∀ f μ', Bt μ μ' l N f 6 6 → Nn (evB l rs f none none none none none none) μ') :
    Ws (runS (tb P (n + 3)) b s__law_bent_0 [some (.cell l), some (rowsD rs), none, none, none, none, none, none, none] μ) Nn Rt Bk Ct X := by
  have hl := hd.lt
  unfold s__law_bent_0
  simp only [ws_ife, ws_set, ws_sub, ws_ret_, ws_expr, ws_pass, ws_retn, ws_brk, ws_cnt, x_cmp, x_cmp2, x_ix, x_int, x_bl, x_str, x_non, x_npart, x_bin, x_neg, x_not, x_and, x_or, x_ife, x_lst, x_tup, x_call, x_bi, x_thaw, x_glob, ws_nilE, ws_consE, y_var, List.getElem?_cons_zero, List.getElem?_cons_succ, Option.some.injEq, exists_eq_left', List.set_cons_zero, List.set_cons_succ, c_gt, c_lt, c_le, c_ge, c_eq, c_ne, t_bl, t_int, n_add, n_sub, n_mul, n_mod, n_fdiv, n_pow, n_neg, ix_lst, ix_tup, decide_eq_true_eq, decide_eq_false_iff_not, x_lc, i_exD, lc_name, wipe1, Prod.mk.injEq, VM.D.lst.injEq]
  refine ⟨_, rfl, wp_lcLoop (xs := rs.map rowD) (fun i acc μ' => μ'.length = μ.length + i ∧ (∀ k, k < μ.length → μ'[k]? = μ[k]?) ∧ acc = (List.range i).map (fun k => .cell (μ.length + k)) ∧ ∀ k, k < i → ∃ ys, μ'[μ.length + k]? = some (.lst ys) ∧ ys.length ≤ 6 ∧ ∀ y ∈ ys, Pl 3 612 y) (fun _ _ _ _ => src_data _) (by rfl) ⟨rfl, fun _ _ => rfl, rfl, fun _ h => by omega⟩ (fun i x acc ν hx hI => ?_) fun acc ν hI => ?_⟩
  · have h1 := hI.1; have h2 := hI.2.1; have h3 := hI.2.2.1; have h4 := hI.2.2.2
    have hi := (List.getElem?_eq_some_iff.mp hx).1
    rw [List.length_map] at hi
    have hm2 := hr.m2
    obtain ⟨r, hrm, rfl⟩ := List.mem_map.mp (List.mem_of_getElem? hx)
    obtain ⟨_, r2, r3⟩ := hr.row r hrm
    simp only [ws_ife, ws_set, ws_sub, ws_ret_, ws_expr, ws_pass, ws_retn, ws_brk, ws_cnt, x_cmp, x_cmp2, x_ix, x_int, x_bl, x_str, x_non, x_npart, x_bin, x_neg, x_not, x_and, x_or, x_ife, x_lst, x_tup, x_call, x_bi, x_thaw, x_glob, ws_nilE, ws_consE, y_var, List.getElem?_cons_zero, List.getElem?_cons_succ, Option.some.injEq, exists_eq_left', List.set_cons_zero, List.set_cons_succ, c_gt, c_lt, c_le, c_ge, c_eq, c_ne, t_bl, t_int, n_add, n_sub, n_mul, n_mod, n_fdiv, n_pow, n_neg, ix_lst, ix_tup, decide_eq_true_eq, decide_eq_false_iff_not, lc_name, wipe1, bi_list, Bool.true_eq_false, false_implies, and_true, true_implies, Prod.mk.injEq, VM.D.lst.injEq]
    refine ⟨r.map .int, 0, ⟨rfl, rfl⟩, szr (by rw [h3]; simp; omega), by simp [h1]; omega, fun k hk => ?_, ?_, fun k hk => ?_⟩
    · rw [List.getElem?_append_left (by omega)]; exact h2 k hk
    · rw [h3, h1, List.range_succ, List.map_append]; rfl
    · by_cases e : k = i
      · rw [e, ← h1, List.getElem?_append_right (Nat.le_refl _)]
        exact ⟨r.map .int, by simp, by simpa using r2, pl_ints r3⟩
      · obtain ⟨ys, q1, q2⟩ := h4 k (by omega)
        exact ⟨ys, by rw [List.getElem?_append_left (by omega)]; exact q1, q2⟩
  · have h1 := hI.1; have h2 := hI.2.1; have h3 := hI.2.2.1; have h4 := hI.2.2.2
    rw [List.length_map] at h1 h3 h4
    refine ⟨acc, 0, ⟨rfl, rfl⟩, ?_⟩
    have dk' : Dk ν l N := by
      obtain ⟨a, bb, c, e, r⟩ := hd
      exact ⟨a, bb, c, by rw [h2 l hl]; exact e, r⟩
    refine hn _ _ ⟨by omega, fun k hk hn => by rw [List.getElem?_append_left (by omega)]; exact h2 k hk, ?_, by simp; omega, acc, by rw [List.getElem?_append_right (Nat.le_refl _)]; simp, by rw [h3]; simp; exact hr.m1, by rw [h3]; simp; exact hr.m2, fun d hd => ?_⟩
    · obtain ⟨a, bb, c, e, r⟩ := dk'
      exact ⟨a, bb, c, by rw [List.getElem?_append_left (by omega)]; exact e, r⟩
    · rw [h3] at hd
      obtain ⟨k, hk, rfl⟩ := List.mem_map.mp hd
      have hk := List.mem_range.mp hk
      obtain ⟨ys, q1, q2, q3⟩ := h4 k hk
      exact .inl ⟨_, ys, rfl, by omega, by omega, by rw [List.getElem?_append_left (by omega)]; exact q1, q2, q3⟩
end
end Law

set_option Elab.async false
set_option maxRecDepth 10000
set_option autoImplicit false
set_option linter.unusedVariables false
set_option linter.unusedSimpArgs false
namespace Law
open PySem VM
open L2 (atI ixN)
variable {E : Exc → Sto → Prop} {n b l N : Nat} {μ : Sto} {Q : VM.D × Nat → Sto → Prop}
theorem len_cell {c : Nat} {ys : List VM.D} (h : μ[c]? = some (.lst ys)) : Wp (biD "len" [.cell c] μ) Q E ↔ Q (.int ys.length, 0) μ := by
  have e : biD "len" [.cell c] μ = .ok (.int ys.length, 0) μ := by
    show sh ((match μ[c]? with | some (C.lst xs) => some xs | _ => none).map fun (xs : List VM.D) => VM.D.int xs.length) μ = _
    rw [h]; rfl
  rw [e]; exact wp_ok
theorem ty_cell {c : Nat} {ys : List VM.D} (h : μ[c]? = some (.lst ys)) : tyD μ (.cell c) = some "list" := by
  show (match μ[c]? with | some (.lst _) => some "list" | some (.dct _) => some "dict" | _ => none) = _
  rw [h]
theorem ne_nilC {k w c : Nat} {ys : List VM.D} (hc : μ[c]? = some (.lst ys)) (h : ∀ d ∈ ys, Pl k w d) (hk : k < 8) : cmpD .NotEq (.cell c) (.lst []) μ = some (!ys.isEmpty) := by
  rw [← ne_nil (μ := μ) h hk]
  show (eqS μ (.cell c) (.lst [])).map _ = (eqS μ (.lst ys) (.lst [])).map _
  have e : toPy μ 9 (.cell c) = toPy μ 9 (.lst ys) := by
    show (match μ[c]? with | some (C.lst xs) => (xs.mapM (toPy μ 8)).map PyData.list | _ => none) = (ys.mapM (toPy μ 8)).map PyData.list
    rw [hc]
  unfold eqS
  rw [e]
section
variable {Nn Bk Ct : Ev → Sto → Prop} {Rt : VM.D → Nat → Sto → Prop} {X : Exc → Ev → Sto → Prop} {μ0 : Sto} {f L R : Nat}
/-- the turn's end -/
def Tn (μ0 : Sto) (l M L R : Nat) (rs : List (List Int)) (Nn : Ev → Sto → Prop) : Prop := ∀ f o2 o4 o5 o6 o7 o8 μ', Bt μ0 μ' l M f L R → Nn (evB l rs f o2 o4 o5 o6 o7 o8) μ'
abbrev sA : Ss := .cons (.set (.name 7) (.call "_law_pick" (.cons (.var 0) (.cons (.bi "len" (.cons (.var 2) .nil)) .nil))))
  (.cons (.set (.sub (.var 2) (.var 7)) (.ix (.lst (.cons (.bl true) (.cons .non (.cons (.str "1") (.cons (.tup (.cons (.int 1) .nil)) (.cons (.lst (.cons (.int 1) .nil)) (.cons (.tup (.cons (.int 1) (.cons (.int 2) .nil))) (.cons (.int 0) (.cons (.call "_law_thing" (.cons (.var 0) (.cons (.int 2) .nil))) .nil))))))))) (.call "_law_pick" (.cons (.var 0) (.cons (.int 8) .nil)))))
  .nil)
theorem brA {rs : List (List Int)} {c : Nat} {ys : List VM.D} {o4 o5 o6 o7 o8 : Option VM.D} (hl : l < μ0.length) (hb : b = μ0.length) (S : Bt μ0 μ l N f L R) (hN : N ≤ 800000) (hR : R ≤ 60) (c1 : μ0.length ≤ c) (c2 : c ≠ f) (c3 : μ[c]? = some (.lst ys)) (c4 : ys.length ≤ R) (c5 : ∀ y ∈ ys, Pl 3 612 y) (c6 : 1 ≤ ys.length)
    (hn : Tn μ0 l (N + 106) L R rs Nn) : Ws (runSs (tb P (n + 4)) b sA (evB l rs f (some (.cell c)) o4 o5 o6 o7 o8) μ) Nn Rt Bk Ct X := by
  unfold sA
  simp only [evB]
  rw [ws_cons]
  simp only [ws_ife, ws_set, ws_sub, ws_ret_, ws_expr, ws_pass, ws_retn, ws_brk, ws_cnt, x_cmp, x_cmp2, x_ix, x_int, x_bl, x_str, x_non, x_npart, x_bin, x_neg, x_not, x_and, x_or, x_ife, x_lst, x_tup, x_call, x_bi, x_thaw, x_glob, ws_nilE, ws_consE, y_var, List.getElem?_cons_zero, List.getElem?_cons_succ, Option.some.injEq, exists_eq_left', List.set_cons_zero, List.set_cons_succ, c_gt, c_lt, c_le, c_ge, c_eq, c_ne, t_bl, t_int, n_add, n_sub, n_mul, n_mod, n_fdiv, n_pow, n_neg, ix_lst, ix_tup, decide_eq_true_eq, decide_eq_false_iff_not, len_cell c3]
  refine pick dr.pick S.dk (by omega) (by omega) (by omega) fun p μ1 p0 p1 d1 f1 => ?_
  have S1 := S.step hl f1 d1
  have c3' : μ1[c]? = some (.lst ys) := (f1.at_ c (by omega)).trans c3
  simp only [ws_ife, ws_set, ws_sub, ws_ret_, ws_expr, ws_pass, ws_retn, ws_brk, ws_cnt, x_cmp, x_cmp2, x_ix, x_int, x_bl, x_str, x_non, x_npart, x_bin, x_neg, x_not, x_and, x_or, x_ife, x_lst, x_tup, x_call, x_bi, x_thaw, x_glob, ws_nilE, ws_consE, y_var, List.getElem?_cons_zero, List.getElem?_cons_succ, Option.some.injEq, exists_eq_left', List.set_cons_zero, List.set_cons_succ, c_gt, c_lt, c_le, c_ge, c_eq, c_ne, t_bl, t_int, n_add, n_sub, n_mul, n_mod, n_fdiv, n_pow, n_neg, ix_lst, ix_tup, decide_eq_true_eq, decide_eq_false_iff_not]
  rw [ws_cons]
  simp only [ws_ife, ws_set, ws_sub, ws_ret_, ws_expr, ws_pass, ws_retn, ws_brk, ws_cnt, x_cmp, x_cmp2, x_ix, x_int, x_bl, x_str, x_non, x_npart, x_bin, x_neg, x_not, x_and, x_or, x_ife, x_lst, x_tup, x_call, x_bi, x_thaw, x_glob, ws_nilE, ws_consE, y_var, List.getElem?_cons_zero, List.getElem?_cons_succ, Option.some.injEq, exists_eq_left', List.set_cons_zero, List.set_cons_succ, c_gt, c_lt, c_le, c_ge, c_eq, c_ne, t_bl, t_int, n_add, n_sub, n_mul, n_mod, n_fdiv, n_pow, n_neg, ix_lst, ix_tup, decide_eq_true_eq, decide_eq_false_iff_not, List.length_cons, List.length_nil]
  refine ⟨by decide, by decide, by decide, ?_⟩
  refine thing 2 (by decide) S1.dk (by unfold Kp Kp Kp; omega) fun d8 f8 μ2 t1 d2 f2 => ?_
  have S2 := S1.step hl f2 d2
  have c3'' : μ2[c]? = some (.lst ys) := (f2.at_ c (by omega)).trans c3'
  simp only [ws_ife, ws_set, ws_sub, ws_ret_, ws_expr, ws_pass, ws_retn, ws_brk, ws_cnt, x_cmp, x_cmp2, x_ix, x_int, x_bl, x_str, x_non, x_npart, x_bin, x_neg, x_not, x_and, x_or, x_ife, x_lst, x_tup, x_call, x_bi, x_thaw, x_glob, ws_nilE, ws_consE, y_var, List.getElem?_cons_zero, List.getElem?_cons_succ, Option.some.injEq, exists_eq_left', List.set_cons_zero, List.set_cons_succ, c_gt, c_lt, c_le, c_ge, c_eq, c_ne, t_bl, t_int, n_add, n_sub, n_mul, n_mod, n_fdiv, n_pow, n_neg, ix_lst, ix_tup, decide_eq_true_eq, decide_eq_false_iff_not, List.length_cons, List.length_nil]
  refine ⟨by decide, pick dr.pick S2.dk (by unfold Kp Kp Kp; omega) (by decide) (by decide) fun q μ3 q0 q1 d3 f3 => ?_⟩
  have S3 := S2.step hl f3 d3
  have c3x : μ3[c]? = some (.lst ys) := (f3.at_ c (by omega)).trans c3''
  obtain ⟨v, hv, hm⟩ := one (xs := [VM.D.bl true, .non, .str "1", .tup [.int 1], .lst [.int 1], .tup [.int 1, .int 2], .int 0, d8]) (i := q) q0 (by simpa using q1)
  have pv : Pl 3 612 v := by
    have one61 : (1 : Int).natAbs < 10 ^ 61 := by decide
    have two61 : (2 : Int).natAbs < 10 ^ 61 := by decide
    have i1 : ∀ y ∈ [VM.D.int 1], Pl 2 64 y := fun y hy => by rw [List.mem_singleton.mp hy]; exact .int 1 one61 (Nat.le_refl _)
    have i2 : ∀ y ∈ [VM.D.int 1, VM.D.int 2], Pl 2 64 y := fun y hy => by
      simp only [List.mem_cons, List.not_mem_nil, or_false] at hy
      rcases hy with rfl | rfl
      · exact .int 1 one61 (Nat.le_refl _)
      · exact .int 2 two61 (Nat.le_refl _)
    simp only [List.mem_cons, List.not_mem_nil, or_false] at hm
    rcases hm with rfl | rfl | rfl | rfl | rfl | rfl | rfl | rfl
    · exact .bl _ (by decide)
    · exact .non (by decide)
    · exact .str _ (by decide +kernel) (by decide +kernel)
    · exact .tup _ i1 (by decide)
    · exact .lst _ i1 (by decide)
    · exact .tup _ i2 (by decide)
    · exact .int 0 (by decide) (by decide)
    · exact t1
  have hset : setD b (.cell c) (.int p) v μ3 = some (μ3.set c (.lst (ys.set p.toNat v))) := set_cell c3x (ixN_ok p0 p1) (by unfold mayPut; rw [hb]; simp [c1])
  simp only [ws_ife, ws_set, ws_sub, ws_ret_, ws_expr, ws_pass, ws_retn, ws_brk, ws_cnt, x_cmp, x_cmp2, x_ix, x_int, x_bl, x_str, x_non, x_npart, x_bin, x_neg, x_not, x_and, x_or, x_ife, x_lst, x_tup, x_call, x_bi, x_thaw, x_glob, ws_nilE, ws_consE, y_var, List.getElem?_cons_zero, List.getElem?_cons_succ, Option.some.injEq, exists_eq_left', List.set_cons_zero, List.set_cons_succ, c_gt, c_lt, c_le, c_ge, c_eq, c_ne, t_bl, t_int, n_add, n_sub, n_mul, n_mod, n_fdiv, n_pow, n_neg, ix_lst, ix_tup, decide_eq_true_eq, decide_eq_false_iff_not, hv, hset, ws_nil]
  refine hn _ _ _ _ _ _ _ _ ((S3.row hl c1 c2 (by rw [List.length_set]; exact c4) (fun y hy => ?_) (List.getElem?_eq_some_iff.mp c3x).1).mono (by unfold Kp Kp Kp; omega) (Nat.le_refl _) (Nat.le_refl _))
  rcases List.mem_or_eq_of_mem_set hy with hy | rfl
  · exact c5 y hy
  · exact pv
end
end Law

set_option Elab.async false
set_option maxRecDepth 10000
set_option autoImplicit false
set_option linter.unusedVariables false
set_option linter.unusedSimpArgs false
namespace Law
open PySem VM
open L2 (atI ixN)
variable {E : Exc → Sto → Prop} {n b l N : Nat} {μ : Sto} {Q : VM.D × Nat → Sto → Prop}
theorem x_slc {T : Tb} {ρ : Ev} {x y z : VM.E} : Wp (evE T b (.slc x y z) ρ μ) Q E ↔ Wp (evE T b x ρ μ) (fun d μ1 => Wp (evE T b y ρ μ1) (fun p μ2 => ∃ lv, partD p.1 = some lv ∧ Wp (evE T b z ρ μ2) (fun h μ3 => ∃ hv, partD h.1 = some hv ∧ Wp (slD d.1 lv hv μ3) Q E) E) E) E := by
  show Wp ((evE T b x ρ μ).bind fun d μ1 => (evE T b y ρ μ1).bind fun l μ2 => match partD l.1 with
    | none => .bad
    | some lv => (evE T b z ρ μ2).bind fun h μ3 => match partD h.1 with
      | none => .bad
      | some hv => slD d.1 lv hv μ3) Q E ↔ _
  have k1 : ∀ (d h : VM.D × Nat) (lv : Option Int) (μ3 : Sto), Wp (match partD h.1 with | none => (.bad : R (VM.D × Nat)) | some hv => slD d.1 lv hv μ3) Q E ↔ ∃ hv, partD h.1 = some hv ∧ Wp (slD d.1 lv hv μ3) Q E := by
    intro d h lv μ3
    cases partD h.1 with
    | none => exact ⟨fun h => (wp_bad.mp h).elim, fun ⟨_, h, _⟩ => by cases h⟩
    | some hv => exact ⟨fun h => ⟨hv, rfl, h⟩, fun ⟨_, h, q⟩ => by cases h; exact q⟩
  have k2 : ∀ (d p : VM.D × Nat) (μ2 : Sto), Wp (match partD p.1 with
    | none => (.bad : R (VM.D × Nat))
    | some lv => (evE T b z ρ μ2).bind fun h μ3 => match partD h.1 with
      | none => .bad
      | some hv => slD d.1 lv hv μ3) Q E ↔ ∃ lv, partD p.1 = some lv ∧ Wp (evE T b z ρ μ2) (fun h μ3 => ∃ hv, partD h.1 = some hv ∧ Wp (slD d.1 lv hv μ3) Q E) E := by
    intro d p μ2
    cases partD p.1 with
    | none => exact ⟨fun h => (wp_bad.mp h).elim, fun ⟨_, h, _⟩ => by cases h⟩
    | some lv =>
      simp only [wp_bind, k1]
      exact ⟨fun h => ⟨lv, rfl, h⟩, fun ⟨_, h, q⟩ => by cases h; exact q⟩
  simp only [wp_bind, k2]
theorem sl_lst {xs : List VM.D} {lo hi : Option Int} : Wp (slD (.lst xs) lo hi μ) Q E ↔ Q (.lst (cutD xs lo hi), 1) μ := wp_ok
theorem add_lst {xs ys : List VM.D} : Wp (binD .Add (.lst xs) (.lst ys) μ) Q E ↔ xs.length + ys.length ≤ sizeLine ∧ Q (.lst (xs ++ ys), 1) μ := by
  show Wp (if xs.length + ys.length ≤ sizeLine then .ok (.lst (xs ++ ys), 1) μ else .bad) Q E ↔ _
  rw [wp_if, wp_ok, wp_bad]; exact and_if
theorem add_cell {c : Nat} {xs ys : List VM.D} (h : μ[c]? = some (.lst xs)) : Wp (binD .Add (.cell c) (.lst ys) μ) Q E ↔ xs.length + ys.length ≤ sizeLine ∧ Q (.lst (xs ++ ys), 1) μ := by
  show Wp (match (match μ[c]? with | some (C.lst xs) => some xs | _ => none) with
    | none => .bad
    | some xs => if xs.length + ys.length ≤ sizeLine then .ok (.lst (xs ++ ys), 1) μ else .bad) Q E ↔ _
  rw [h]
  show Wp (if xs.length + ys.length ≤ sizeLine then .ok (.lst (xs ++ ys), 1) μ else .bad) Q E ↔ _
  rw [wp_if, wp_ok, wp_bad]; exact and_if
theorem mul_lst {xs : List VM.D} {k : Int} : Wp (binD .Mult (.lst xs) (.int k) μ) Q E ↔ (-(2 ^ 63) ≤ k ∧ k < 2 ^ 63 ∧ xs.length * k.toNat ≤ sizeLine) ∧ Q (.lst (List.replicate k.toNat xs).flatten, 1) μ := by
  show Wp (if -(2 ^ 63) ≤ k ∧ k < 2 ^ 63 ∧ xs.length * k.toNat ≤ sizeLine then .ok (.lst (List.replicate k.toNat xs).flatten, 1) μ else .bad) Q E ↔ _
  rw [wp_if, wp_ok, wp_bad]; exact and_if
theorem bi_listC {c : Nat} {ys : List VM.D} (h : μ[c]? = some (.lst ys)) : Wp (biD "list" [.cell c] μ) Q E ↔ Q (.lst ys, 1) μ := by
  have e : biD "list" [.cell c] μ = .ok (.lst ys, 1) μ := by
    show (match (match μ[c]? with | some (C.lst xs) => some xs | _ => none) with | some xs => R.ok (VM.D.lst xs, 1) μ | none => .bad) = _
    rw [h]
  rw [e]; exact wp_ok
theorem x_bm {T : Tb} {ρ : Ev} {o : VM.E} {m : Str} {es : VM.Es} : Wp (evE T b (.bm o m es) ρ μ) Q E ↔ Wp (evE T b o ρ μ) (fun d μ1 => ∃ xs, itemsL μ1 d.1 = some xs ∧ Wp (evEs T b es ρ μ1) (fun ds μ2 => Wp (bmD b m d.1 ds μ2) Q E) E) E := by
  show Wp ((evE T b o ρ μ).bind fun d μ1 => match itemsL μ1 d.1 with | none => .bad | some _ => (evEs T b es ρ μ1).bind fun ds μ2 => bmD b m d.1 ds μ2) Q E ↔ _
  have k1 : ∀ (d : VM.D × Nat) (μ1 : Sto), Wp (match itemsL μ1 d.1 with | none => (.bad : R (VM.D × Nat)) | some _ => (evEs T b es ρ μ1).bind fun ds μ2 => bmD b m d.1 ds μ2) Q E ↔ ∃ xs, itemsL μ1 d.1 = some xs ∧ Wp (evEs T b es ρ μ1) (fun ds μ2 => Wp (bmD b m d.1 ds μ2) Q E) E := by
    intro d μ1
    cases itemsL μ1 d.1 with
    | none => exact ⟨fun h => (wp_bad.mp h).elim, fun ⟨_, h, _⟩ => by cases h⟩
    | some xs =>
      simp only [wp_bind]
      exact ⟨fun h => ⟨xs, rfl, h⟩, fun ⟨_, h, q⟩ => by cases h; exact q⟩
  simp only [wp_bind, k1]
theorem items_cell {c : Nat} {ys : List VM.D} (h : μ[c]? = some (.lst ys)) : itemsL μ (.cell c) = some ys := by
  show (match μ[c]? with | some (C.lst xs) => some xs | _ => none) = _
  rw [h]
theorem pop_at {c : Nat} {ys : List VM.D} {i : Int} (h : μ[c]? = some (.lst ys)) (h0 : 0 ≤ i) (h1 : i < ys.length) (h2 : i < 1000) (q : ∀ y, Q (y, 0) (μ.set c (.lst (ys.eraseIdx i.toNat)))) : Wp (bmD b "pop" (.cell c) [.int i] μ) Q E := by
  have hi : i.toNat < ys.length := by omega
  have e : bmD b "pop" (.cell c) [.int i] μ = .ok (ys[i.toNat], 0) (μ.set c (.lst (ys.eraseIdx i.toNat))) := by
    show (match μ[c]? with
      | some (.lst xs) => popD b c xs [.int i] μ
      | _ => .bad) = _
    rw [h]
    show (match ixN ys.length i with
      | some k => (match ys[k]? with | some y => if -(2 ^ 63) ≤ i ∧ i < 2 ^ 63 then R.ok (y, 0) (μ.set c (.lst (ys.eraseIdx k))) else .bad | none => .bad)
      | none => .bad) = _
    rw [ixN_ok h0 h1]
    show (match ys[i.toNat]? with | some y => if -(2 ^ 63) ≤ i ∧ i < 2 ^ 63 then R.ok (y, 0) (μ.set c (.lst (ys.eraseIdx i.toNat))) else .bad | none => .bad) = _
    rw [List.getElem?_eq_getElem hi]
    show (if -(2 ^ 63) ≤ i ∧ i < 2 ^ 63 then R.ok (ys[i.toNat], 0) (μ.set c (.lst (ys.eraseIdx i.toNat))) else .bad) = _
    rw [if_pos ⟨by omega, by omega⟩]
  rw [e, wp_ok]; exact q _
end Law

set_option Elab.async false
set_option maxRecDepth 10000
set_option autoImplicit false
set_option linter.unusedVariables false
set_option linter.unusedSimpArgs false
namespace Law
open PySem VM
open L2 (atI ixN)
variable {E : Exc → Sto → Prop} {n b l N : Nat} {μ : Sto} {Q : VM.D × Nat → Sto → Prop}
section
variable {Nn Bk Ct : Ev → Sto → Prop} {Rt : VM.D → Nat → Sto → Prop} {X : Exc → Ev → Sto → Prop} {μ0 : Sto} {f L R : Nat}
theorem head_row {rs : List (List Int)} (hr : Rw rs) : ∃ r, r ∈ rs ∧ atI (rs.map rowD) 0 = some (rowD r) := by
  cases rs with
  | nil => have := hr.m1; simp at this
  | cons r rs => exact ⟨r, List.mem_cons_self, at0⟩
theorem cut_sub {xs : List VM.D} {lo hi : Option Int} : (cutD xs lo hi).length ≤ xs.length ∧ ∀ d ∈ cutD xs lo hi, d ∈ xs := by
  unfold cutD
  refine ⟨?_, fun d hd => List.mem_of_mem_drop (List.mem_of_mem_take hd)⟩
  rw [List.length_take, List.length_drop]; omega
abbrev sB : Ss := .cons (.set (.sub (.var 3) (.var 5)) (.ix (.lst (.cons (.bi "tuple" (.cons (.ix (.var 1) (.int 0)) .nil)) (.cons .non (.cons (.thaw (.lst .nil)) (.cons (.int 5) (.cons (.str "1") (.cons (.thaw (.bin .Add (.ix (.var 1) (.int 0)) (.lst (.cons (.int 1) .nil)))) (.cons (.thaw (.slc (.ix (.var 1) (.int 0)) (.int 1) .npart)) .nil)))))))) (.call "_law_pick" (.cons (.var 0) (.cons (.int 7) .nil)))))
  .nil
theorem brB {rs : List (List Int)} {at_ : Int} {o2 o4 o6 o7 o8 : Option VM.D} (hr : Rw rs) (hl : l < μ0.length) (hb : b = μ0.length) (S : Bt μ0 μ l N f L R) (hN : N ≤ 800000) (hR : 6 ≤ R) (hR2 : R ≤ 60) (a0 : 0 ≤ at_) (a1 : ∀ ds, μ[f]? = some (.lst ds) → at_ < ds.length)
    (hn : Tn μ0 l (N + 1) L (R + 6) rs Nn) : Ws (runSs (tb P (n + 4)) b sB (evB l rs f o2 o4 (some (.int at_)) o6 o7 o8) μ) Nn Rt Bk Ct X := by
  obtain ⟨r, hrm, hr0⟩ := head_row hr
  obtain ⟨r1, r2, r3⟩ := hr.row r hrm
  unfold sB
  simp only [evB]
  rw [ws_cons]
  simp only [ws_ife, ws_set, ws_sub, ws_ret_, ws_expr, ws_pass, ws_retn, ws_brk, ws_cnt, x_cmp, x_cmp2, x_ix, x_int, x_bl, x_str, x_non, x_npart, x_bin, x_neg, x_not, x_and, x_or, x_ife, x_lst, x_tup, x_call, x_bi, x_thaw, x_glob, ws_nilE, ws_consE, y_var, List.getElem?_cons_zero, List.getElem?_cons_succ, Option.some.injEq, exists_eq_left', List.set_cons_zero, List.set_cons_succ, c_gt, c_lt, c_le, c_ge, c_eq, c_ne, t_bl, t_int, n_add, n_sub, n_mul, n_mod, n_fdiv, n_pow, n_neg, ix_lst, ix_tup, decide_eq_true_eq, decide_eq_false_iff_not, hr0, bi_tuple, List.length_cons, List.length_nil, x_slc, sl_lst, add_lst, Prod.mk.injEq, VM.D.lst.injEq, partD]
  have i61 : (1 : Int).natAbs < 10 ^ 61 := by decide
  have p1 : ∀ y ∈ r.map VM.D.int ++ [VM.D.int 1], Pl 3 612 y := fun y hy => by
    rcases List.mem_append.mp hy with hy | hy
    · exact pl_ints r3 y hy
    · rw [List.mem_singleton.mp hy]; exact .int 1 i61 (by decide)
  have l1 : (r.map VM.D.int).length ≤ 6 := by simpa using r2
  refine ⟨by decide, [], 0, ⟨rfl, rfl⟩, by decide, Nat.le_of_lt (szr (by simp; omega)), _, 0, ⟨rfl, rfl⟩, _, 0, ⟨rfl, rfl⟩, by decide, ?_⟩
  have hds := S.ds
  have S1 := ((S.more [.lst []]).more [.lst (r.map .int ++ [.int 1])]).more [.lst (cutD (r.map .int) (some 1) none)]
  refine pick dr.pick S1.dk (by omega) (by decide) (by decide) fun q μ3 q0 q1 d3 f3 => ?_
  have S3 := S1.step hl f3 d3
  obtain ⟨v, hv, hm⟩ := one (xs := [VM.D.tup (r.map .int), .non, .cell μ.length, .int 5, .str "1", .cell (μ ++ [C.lst []]).length, .cell ((μ ++ [C.lst []]) ++ [C.lst (r.map .int ++ [.int 1])]).length]) (i := q) q0 (by simpa using q1)
  obtain ⟨ds0, g0, _⟩ := hds
  have hf := (List.getElem?_eq_some_iff.mp g0).1
  have lo := S.len
  obtain ⟨ds, g1, g2, g3, g4⟩ := S3.ds
  have gg : ds = ds0 := by
    have e := f3.at_ f (by have := S.lo; omega)
    rw [g1] at e
    simp only [List.append_assoc] at e
    rw [List.getElem?_append_left hf, g0] at e
    cases e; rfl
  have ev : El μ3 μ0.length f (R + 6) v := by
    simp only [List.mem_cons, List.not_mem_nil, or_false] at hm
    rcases hm with rfl | rfl | rfl | rfl | rfl | rfl | rfl
    · refine .inr ⟨.tup (k := 3) (wi := 64) _ (fun y hy => ?_) (by omega), rfl⟩
      obtain ⟨x, hx, rfl⟩ := List.mem_map.mp hy
      exact .int x (r3 x hx) (by decide)
    · exact .inr ⟨.non (by omega), rfl⟩
    · refine .inl ⟨_, [], rfl, lo, by omega, ?_, by simp, fun y hy => by cases hy⟩
      rw [f3.at_ _ (by omega)]; simp
    · exact .inr ⟨.int 5 (by decide) (by omega), rfl⟩
    · exact .inr ⟨.str _ (by decide +kernel) (Nat.le_trans (by decide +kernel : 10 * ("1" : Str).length + 2 ≤ 12) (by omega)), rfl⟩
    · refine .inl ⟨_, r.map .int ++ [.int 1], rfl, by simp; omega, by simp; omega, ?_, by simp; omega, p1⟩
      rw [f3.at_ _ (by simp; omega)]; simp
    · have cs := cut_sub (xs := r.map VM.D.int) (lo := some 1) (hi := none)
      refine .inl ⟨_, cutD (r.map .int) (some 1) none, rfl, by simp; omega, by simp; omega, ?_, by omega, fun y hy => pl_ints r3 y (cs.2 y hy)⟩
      rw [f3.at_ _ (by simp; omega), List.getElem?_append_right (Nat.le_refl _)]; simp
  have hset : setD b (.cell f) (.int at_) v μ3 = some (μ3.set f (.lst (ds.set at_.toNat v))) := set_cell g1 (ixN_ok a0 (by rw [gg]; exact a1 _ g0)) (by unfold mayPut; rw [hb]; simp [S.lo])
  simp only [ws_ife, ws_set, ws_sub, ws_ret_, ws_expr, ws_pass, ws_retn, ws_brk, ws_cnt, x_cmp, x_cmp2, x_ix, x_int, x_bl, x_str, x_non, x_npart, x_bin, x_neg, x_not, x_and, x_or, x_ife, x_lst, x_tup, x_call, x_bi, x_thaw, x_glob, ws_nilE, ws_consE, y_var, List.getElem?_cons_zero, List.getElem?_cons_succ, Option.some.injEq, exists_eq_left', List.set_cons_zero, List.set_cons_succ, c_gt, c_lt, c_le, c_ge, c_eq, c_ne, t_bl, t_int, n_add, n_sub, n_mul, n_mod, n_fdiv, n_pow, n_neg, ix_lst, ix_tup, decide_eq_true_eq, decide_eq_false_iff_not, hv, hset, ws_nil]
  refine hn _ _ _ _ _ _ _ _ ((S3.mono (R := R) (S := R + 6) (Nat.le_refl _) (Nat.le_refl _) (by omega)).found hl (by rw [List.length_set]; exact g2) (by rw [List.length_set]; exact g3) fun d hd => ?_)
  rcases List.mem_or_eq_of_mem_set hd with hd | rfl
  · exact (g4 d hd).mono (by omega)
  · exact ev
abbrev sC : Ss := .cons (.set (.name 3) (.thaw (.bin .Add (.var 3) (.bin .Mult (.lst (.cons (.thaw (.bi "list" (.cons (.ix (.var 1) (.int 0)) .nil))) .nil)) (.ix (.lst (.cons (.int 1) (.cons (.int 6) .nil))) (.call "_law_pick" (.cons (.var 0) (.cons (.int 2) .nil))))))))
  .nil
theorem brC {rs : List (List Int)} {o2 o4 o5 o6 o7 o8 : Option VM.D} (hr : Rw rs) (hl : l < μ0.length) (S : Bt μ0 μ l N f L R) (hN : N ≤ 800000) (hL : L ≤ 60) (hR : 6 ≤ R)
    (hn : Tn μ0 l (N + 1) (L + 6) (R + 6) rs Nn) : Ws (runSs (tb P (n + 4)) b sC (evB l rs f o2 o4 o5 o6 o7 o8) μ) Nn Rt Bk Ct X := by
  obtain ⟨r, hrm, hr0⟩ := head_row hr
  obtain ⟨r1, r2, r3⟩ := hr.row r hrm
  unfold sC
  simp only [evB]
  rw [ws_cons]
  simp only [ws_ife, ws_set, ws_sub, ws_ret_, ws_expr, ws_pass, ws_retn, ws_brk, ws_cnt, x_cmp, x_cmp2, x_ix, x_int, x_bl, x_str, x_non, x_npart, x_bin, x_neg, x_not, x_and, x_or, x_ife, x_lst, x_tup, x_call, x_bi, x_thaw, x_glob, ws_nilE, ws_consE, y_var, List.getElem?_cons_zero, List.getElem?_cons_succ, Option.some.injEq, exists_eq_left', List.set_cons_zero, List.set_cons_succ, c_gt, c_lt, c_le, c_ge, c_eq, c_ne, t_bl, t_int, n_add, n_sub, n_mul, n_mod, n_fdiv, n_pow, n_neg, ix_lst, ix_tup, decide_eq_true_eq, decide_eq_false_iff_not, hr0, bi_list, List.length_cons, List.length_nil, Prod.mk.injEq, VM.D.lst.injEq]
  refine ⟨r.map .int, 0, ⟨rfl, rfl⟩, by decide, by decide, ?_⟩
  have S1 := S.more [.lst (r.map .int)]
  refine pick dr.pick S1.dk (by omega) (by decide) (by decide) fun q μ3 q0 q1 d3 f3 => ?_
  have S3 := S1.step hl f3 d3
  have hk : ∃ k : Int, atI [VM.D.int 1, VM.D.int 6] q = some (.int k) ∧ 1 ≤ k ∧ k ≤ 6 := by
    have : q = 0 ∨ q = 1 := by omega
    rcases this with rfl | rfl
    · exact ⟨1, at0, by decide, by decide⟩
    · exact ⟨6, at1, by decide, by decide⟩
  obtain ⟨k, hk, k1, k2⟩ := hk
  obtain ⟨ds, g1, g2, g3, g4⟩ := S3.ds
  obtain ⟨ds0, g0, _⟩ := S.ds
  have hf := (List.getElem?_eq_some_iff.mp g0).1
  have lo := S.len
  have len3 : μ3.length = μ.length + 1 := by rw [f3.len]; simp
  have cellAt : μ3[μ.length]? = some (.lst (r.map .int)) := by rw [f3.at_ _ (by omega)]; simp
  have fl : (List.replicate k.toNat [VM.D.cell μ.length]).flatten = List.replicate k.toNat (VM.D.cell μ.length) := by
    clear hk k1 k2
    induction k.toNat with
    | zero => rfl
    | succ m ih => rw [List.replicate_succ, List.flatten_cons, ih, List.replicate_succ]; rfl
  simp only [ws_ife, ws_set, ws_sub, ws_ret_, ws_expr, ws_pass, ws_retn, ws_brk, ws_cnt, x_cmp, x_cmp2, x_ix, x_int, x_bl, x_str, x_non, x_npart, x_bin, x_neg, x_not, x_and, x_or, x_ife, x_lst, x_tup, x_call, x_bi, x_thaw, x_glob, ws_nilE, ws_consE, y_var, List.getElem?_cons_zero, List.getElem?_cons_succ, Option.some.injEq, exists_eq_left', List.set_cons_zero, List.set_cons_succ, c_gt, c_lt, c_le, c_ge, c_eq, c_ne, t_bl, t_int, n_add, n_sub, n_mul, n_mod, n_fdiv, n_pow, n_neg, ix_lst, ix_tup, decide_eq_true_eq, decide_eq_false_iff_not, hk, mul_lst, fl, add_cell g1, List.length_replicate, Prod.mk.injEq, VM.D.lst.injEq, ws_nil]
  refine ⟨⟨by omega, by omega, Nat.le_of_lt (szr (by simp; omega))⟩, Nat.le_of_lt (szr (by omega)), _, 0, ⟨rfl, rfl⟩, ?_⟩
  refine hn _ _ _ _ _ _ _ _ (S3.new hl (by simp; omega) (by simp; omega) fun d hd => ?_)
  rcases List.mem_append.mp hd with hd | hd
  · rcases g4 d hd with ⟨c, ys, h1, h2, h3, h4, h5, h6⟩ | ⟨h1, h2⟩
    · exact .inl ⟨c, ys, h1, h2, by have := (List.getElem?_eq_some_iff.mp h4).1; omega, h4, by omega, h6⟩
    · exact .inr ⟨h1.mono (Nat.le_refl _) (by omega), h2⟩
  · obtain ⟨_, rfl⟩ := List.mem_replicate.mp hd
    exact .inl ⟨_, r.map .int, rfl, lo, by omega, cellAt, by simp; omega, pl_ints r3⟩
end
end Law

set_option Elab.async false
set_option maxRecDepth 10000
set_option autoImplicit false
set_option linter.unusedVariables false
set_option linter.unusedSimpArgs false
namespace Law
open PySem VM
open L2 (atI ixN)
variable {E : Exc → Sto → Prop} {n b l N : Nat} {μ : Sto} {Q : VM.D × Nat → Sto → Prop}
section
variable {Nn Bk Ct : Ev → Sto → Prop} {Rt : VM.D → Nat → Sto → Prop} {X : Exc → Ev → Sto → Prop} {μ0 : Sto} {f L R : Nat}
abbrev sD : Ss := .cons (.set (.name 3) (.thaw (.lc (.ife (.bi "isinstance" (.cons (.var 8) (.cons (.glob "list") .nil))) (.thaw (.bin .Add (.bi "list" (.cons (.var 8) .nil)) (.bin .Mult (.lst (.cons (.int 1) .nil)) (.int 6)))) (.var 8)) (.name 8) (.ex (.var 3)) (.bl true) [8])))
  .nil
theorem brD {rs : List (List Int)} {o2 o4 o5 o6 o7 o8 : Option VM.D} (hl : l < μ0.length) (S : Bt μ0 μ l N f L R) (hN : N ≤ 800000) (hL : L ≤ 60) (hR2 : R ≤ 60)
    (hn : Tn μ0 l N L (R + 6) rs Nn) : Ws (runSs (tb P (n + 4)) b sD (evB l rs f o2 o4 o5 o6 o7 o8) μ) Nn Rt Bk Ct X := by
  obtain ⟨ds, g1, g2, g3, g4⟩ := S.ds
  have i61 : (1 : Int).natAbs < 10 ^ 61 := by decide
  unfold sD
  simp only [evB]
  rw [ws_cons]
  simp only [ws_ife, ws_set, ws_sub, ws_ret_, ws_expr, ws_pass, ws_retn, ws_brk, ws_cnt, x_cmp, x_cmp2, x_ix, x_int, x_bl, x_str, x_non, x_npart, x_bin, x_neg, x_not, x_and, x_or, x_ife, x_lst, x_tup, x_call, x_bi, x_thaw, x_glob, ws_nilE, ws_consE, y_var, List.getElem?_cons_zero, List.getElem?_cons_succ, Option.some.injEq, exists_eq_left', List.set_cons_zero, List.set_cons_succ, c_gt, c_lt, c_le, c_ge, c_eq, c_ne, t_bl, t_int, n_add, n_sub, n_mul, n_mod, n_fdiv, n_pow, n_neg, ix_lst, ix_tup, decide_eq_true_eq, decide_eq_false_iff_not, x_lc, i_exD, srcIt_cell g1, Prod.mk.injEq, VM.D.lst.injEq]
  refine wp_lcLoop (xs := ds) (fun i acc ν => Bt μ0 ν l N f L R ∧ ν[f]? = some (.lst ds) ∧ acc.length = i ∧ ∀ d ∈ acc, El ν μ0.length f (R + 6) d) (fun i acc ν h => src_cell h.2.1 i) (size_cell g1) ⟨S, g1, rfl, fun _ h => by cases h⟩ (fun i x acc ν hx hI => ?_) fun acc ν hI => ?_
  · have h1 := hI.1; have h2 := hI.2.1; have h3 := hI.2.2.1; have h4 := hI.2.2.2
    have hi := (List.getElem?_eq_some_iff.mp hx).1
    have hx2 : El ν μ0.length f R x := by
      obtain ⟨es, e1, _, _, e4⟩ := h1.ds
      rw [h2] at e1; cases e1
      exact e4 x (List.mem_of_getElem? hx)
    rcases hx2 with ⟨c, ys, rfl, c1, c2, c3, c4, c5⟩ | ⟨p, pl⟩
    · simp only [ws_ife, ws_set, ws_sub, ws_ret_, ws_expr, ws_pass, ws_retn, ws_brk, ws_cnt, x_cmp, x_cmp2, x_ix, x_int, x_bl, x_str, x_non, x_npart, x_bin, x_neg, x_not, x_and, x_or, x_ife, x_lst, x_tup, x_call, x_bi, x_thaw, x_glob, ws_nilE, ws_consE, y_var, List.getElem?_cons_zero, List.getElem?_cons_succ, Option.some.injEq, exists_eq_left', List.set_cons_zero, List.set_cons_succ, c_gt, c_lt, c_le, c_ge, c_eq, c_ne, t_bl, t_int, n_add, n_sub, n_mul, n_mod, n_fdiv, n_pow, n_neg, ix_lst, ix_tup, decide_eq_true_eq, decide_eq_false_iff_not, lc_name, wipe1, g_list, isin_of (ty_cell c3) il5, bi_listC c3, mul_lst, add_lst, List.length_cons, List.length_nil, Bool.true_eq_false, false_implies, and_true, true_implies, Prod.mk.injEq, VM.D.lst.injEq]
      refine ⟨by decide, ⟨by decide, by decide, by decide⟩, Nat.le_of_lt (szr (by simp; omega)), _, 0, ⟨rfl, rfl⟩, szr (by omega), h1.more _, ?_, by simp [h3], fun d hd => ?_⟩
      · rw [List.getElem?_append_left (List.getElem?_eq_some_iff.mp h2).1]; exact h2
      · rcases List.mem_append.mp hd with hd | hd
        · exact (h4 d hd).keep fun c ys c1 c2 c3 c4 c5 => ⟨ys, by rw [List.getElem?_append_left (List.getElem?_eq_some_iff.mp c3).1]; exact c3, c4, c5⟩
        · rw [List.mem_singleton.mp hd]
          have hf := (List.getElem?_eq_some_iff.mp h2).1
          refine .inl ⟨_, _, rfl, h1.len, by omega, by rw [List.getElem?_append_right (Nat.le_refl _)]; simp; rfl, by simp; omega, fun y hy => ?_⟩
          rcases List.mem_append.mp hy with hy | hy
          · exact c5 y hy
          · have : y = .int 1 := by
              have : y ∈ [VM.D.int 1, .int 1, .int 1, .int 1, .int 1, .int 1] := hy
              simpa using this
            rw [this]; exact .int 1 i61 (by decide)
    · have hfl : isaT (tyP x) "list" = some false := by rw [isa_list p, pl]
      simp only [ws_ife, ws_set, ws_sub, ws_ret_, ws_expr, ws_pass, ws_retn, ws_brk, ws_cnt, x_cmp, x_cmp2, x_ix, x_int, x_bl, x_str, x_non, x_npart, x_bin, x_neg, x_not, x_and, x_or, x_ife, x_lst, x_tup, x_call, x_bi, x_thaw, x_glob, ws_nilE, ws_consE, y_var, List.getElem?_cons_zero, List.getElem?_cons_succ, Option.some.injEq, exists_eq_left', List.set_cons_zero, List.set_cons_succ, c_gt, c_lt, c_le, c_ge, c_eq, c_ne, t_bl, t_int, n_add, n_sub, n_mul, n_mod, n_fdiv, n_pow, n_neg, ix_lst, ix_tup, decide_eq_true_eq, decide_eq_false_iff_not, lc_name, wipe1, g_list, isin_of (Pl.ty p) hfl, Bool.false_eq_true, Bool.true_eq_false, false_implies, and_true, true_and, true_implies]
      refine ⟨szr (by omega), h1, h2, by simp [h3], fun d hd => ?_⟩
      rcases List.mem_append.mp hd with hd | hd
      · exact h4 d hd
      · rw [List.mem_singleton.mp hd]
        exact .inr ⟨p.mono (Nat.le_refl _) (by omega), pl⟩
  · have h1 := hI.1; have h2 := hI.2.1; have h3 := hI.2.2.1; have h4 := hI.2.2.2
    refine ⟨_, 0, ⟨rfl, rfl⟩, ?_⟩
    rw [ws_nil]
    refine hn _ _ _ _ _ _ _ _ (h1.new hl (by omega) (by omega) fun d hd => ?_)
    rcases h4 d hd with ⟨c, ys, e1, e2, e3, e4, e5, e6⟩ | h
    · exact .inl ⟨c, ys, e1, e2, by have := (List.getElem?_eq_some_iff.mp e4).1; omega, e4, e5, e6⟩
    · exact .inr h
abbrev sE : Ss := .cons (.ife (.cmp .Gt (.bi "len" (.cons (.var 3) .nil)) (.int 1)) (.cons (.expr (.bm (.var 3) "pop" (.cons (.var 5) .nil)))
  .nil) .nil)
  .nil
theorem brE {rs : List (List Int)} {at_ : Int} {o2 o4 o6 o7 o8 : Option VM.D} (hl : l < μ0.length) (S : Bt μ0 μ l N f L R) (hL : L ≤ 60) (a0 : 0 ≤ at_) (a1 : ∀ ds, μ[f]? = some (.lst ds) → at_ < ds.length)
    (hn : Tn μ0 l N L R rs Nn) : Ws (runSs (tb P (n + 4)) b sE (evB l rs f o2 o4 (some (.int at_)) o6 o7 o8) μ) Nn Rt Bk Ct X := by
  obtain ⟨ds, g1, g2, g3, g4⟩ := S.ds
  have h1 := a1 _ g1
  unfold sE
  simp only [evB]
  rw [ws_cons]
  simp only [ws_ife, ws_set, ws_sub, ws_ret_, ws_expr, ws_pass, ws_retn, ws_brk, ws_cnt, x_cmp, x_cmp2, x_ix, x_int, x_bl, x_str, x_non, x_npart, x_bin, x_neg, x_not, x_and, x_or, x_ife, x_lst, x_tup, x_call, x_bi, x_thaw, x_glob, ws_nilE, ws_consE, y_var, List.getElem?_cons_zero, List.getElem?_cons_succ, Option.some.injEq, exists_eq_left', List.set_cons_zero, List.set_cons_succ, c_gt, c_lt, c_le, c_ge, c_eq, c_ne, t_bl, t_int, n_add, n_sub, n_mul, n_mod, n_fdiv, n_pow, n_neg, ix_lst, ix_tup, decide_eq_true_eq, decide_eq_false_iff_not, len_cell g1, ws_cons, ws_nil]
  refine ⟨fun h2 => ?_, fun _ => hn _ _ _ _ _ _ _ _ S⟩
  simp only [ws_ife, ws_set, ws_sub, ws_ret_, ws_expr, ws_pass, ws_retn, ws_brk, ws_cnt, x_cmp, x_cmp2, x_ix, x_int, x_bl, x_str, x_non, x_npart, x_bin, x_neg, x_not, x_and, x_or, x_ife, x_lst, x_tup, x_call, x_bi, x_thaw, x_glob, ws_nilE, ws_consE, y_var, List.getElem?_cons_zero, List.getElem?_cons_succ, Option.some.injEq, exists_eq_left', List.set_cons_zero, List.set_cons_succ, c_gt, c_lt, c_le, c_ge, c_eq, c_ne, t_bl, t_int, n_add, n_sub, n_mul, n_mod, n_fdiv, n_pow, n_neg, ix_lst, ix_tup, decide_eq_true_eq, decide_eq_false_iff_not, x_bm, items_cell g1]
  refine pop_at g1 a0 h1 (by omega) fun y => ?_
  refine hn _ _ _ _ _ _ _ _ (S.found hl ?_ ?_ fun d hd => g4 d (List.mem_of_mem_eraseIdx hd))
  · rw [List.length_eraseIdx]; split <;> omega
  · rw [List.length_eraseIdx]; split <;> omega
end
end Law

set_option Elab.async false
set_option maxRecDepth 10000
set_option autoImplicit false
set_option linter.unusedVariables false
set_option linter.unusedSimpArgs false
namespace Law
open PySem VM
open L2 (atI ixN)
variable {E : Exc → Sto → Prop} {n b l N : Nat} {μ : Sto} {Q : VM.D × Nat → Sto → Prop}
section
variable {Nn Bk Ct : Ev → Sto → Prop} {Rt : VM.D → Nat → Sto → Prop} {X : Exc → Ev → Sto → Prop} {μ0 : Sto} {f L R : Nat}
theorem Tn.mono {M K S M' K' S' : Nat} {rs : List (List Int)} (h : Tn μ0 l M' K' S' rs Nn) (a : M ≤ M') (b : K ≤ K') (c : S ≤ S') : Tn μ0 l M K S rs Nn := fun f o2 o4 o5 o6 o7 o8 μ' B => h f o2 o4 o5 o6 o7 o8 μ' (B.mono a b c)
abbrev condA : VM.E := .and (.cmp .Lt (.var 6) (.int 4)) (.and (.bi "isinstance" (.cons (.var 2) (.cons (.glob "list") .nil))) (.cmp .NotEq (.var 2) (.lst .nil)))
theorem turn {rs : List (List Int)} {o2 o4 o5 o6 o7 o8 : Option VM.D} (hr : Rw rs) (hl : l < μ0.length) (hb : b = μ0.length) (S : Bt μ0 μ l N f L R) (hN : N ≤ 700000) (hL : L ≤ 50) (hR : 6 ≤ R) (hR2 : R ≤ 50)
    (hn : Tn μ0 l (N + 110) (L + 6) (R + 6) rs Nn) : Ws (runSs (tb P (n + 4)) b (.cons (.set (.name 5) (.call "_law_pick" (.cons (.var 0) (.cons (.bi "len" (.cons (.var 3) .nil)) .nil))))
      (.cons (.set (.name 2) (.ix (.var 3) (.var 5)))
      (.cons (.set (.name 6) (.call "_law_pick" (.cons (.var 0) (.cons (.int 9) .nil))))
      (.cons (.ife condA sA (.cons (.ife (.cmp .Eq (.var 6) (.int 4)) sB (.cons (.ife (.cmp .Eq (.var 6) (.int 5)) sC (.cons (.ife (.cmp .Eq (.var 6) (.int 6)) sD sE) .nil)) .nil)) .nil)) .nil)))) (evB l rs f o2 o4 o5 o6 o7 o8) μ) Nn Rt Bk Ct X := by
  obtain ⟨ds, g1, g2, g3, g4⟩ := S.ds
  have lo := S.lo
  simp only [evB]
  rw [ws_cons]
  simp only [ws_ife, ws_set, ws_sub, ws_ret_, ws_expr, ws_pass, ws_retn, ws_brk, ws_cnt, x_cmp, x_cmp2, x_ix, x_int, x_bl, x_str, x_non, x_npart, x_bin, x_neg, x_not, x_and, x_or, x_ife, x_lst, x_tup, x_call, x_bi, x_thaw, x_glob, ws_nilE, ws_consE, y_var, List.getElem?_cons_zero, List.getElem?_cons_succ, Option.some.injEq, exists_eq_left', List.set_cons_zero, List.set_cons_succ, c_gt, c_lt, c_le, c_ge, c_eq, c_ne, t_bl, t_int, n_add, n_sub, n_mul, n_mod, n_fdiv, n_pow, n_neg, ix_lst, ix_tup, decide_eq_true_eq, decide_eq_false_iff_not, len_cell g1]
  refine pick dr.pick S.dk (by omega) (by omega) (by omega) fun a μ1 a0 a1 d1 f1 => ?_
  have S1 := S.step hl f1 d1
  have g1' : μ1[f]? = some (.lst ds) := (f1.at_ f (by omega)).trans g1
  obtain ⟨d, hd, hm⟩ := one (xs := ds) a0 (by exact a1)
  simp only [ws_ife, ws_set, ws_sub, ws_ret_, ws_expr, ws_pass, ws_retn, ws_brk, ws_cnt, x_cmp, x_cmp2, x_ix, x_int, x_bl, x_str, x_non, x_npart, x_bin, x_neg, x_not, x_and, x_or, x_ife, x_lst, x_tup, x_call, x_bi, x_thaw, x_glob, ws_nilE, ws_consE, y_var, List.getElem?_cons_zero, List.getElem?_cons_succ, Option.some.injEq, exists_eq_left', List.set_cons_zero, List.set_cons_succ, c_gt, c_lt, c_le, c_ge, c_eq, c_ne, t_bl, t_int, n_add, n_sub, n_mul, n_mod, n_fdiv, n_pow, n_neg, ix_lst, ix_tup, decide_eq_true_eq, decide_eq_false_iff_not]
  rw [ws_cons]
  simp only [ws_ife, ws_set, ws_sub, ws_ret_, ws_expr, ws_pass, ws_retn, ws_brk, ws_cnt, x_cmp, x_cmp2, x_ix, x_int, x_bl, x_str, x_non, x_npart, x_bin, x_neg, x_not, x_and, x_or, x_ife, x_lst, x_tup, x_call, x_bi, x_thaw, x_glob, ws_nilE, ws_consE, y_var, List.getElem?_cons_zero, List.getElem?_cons_succ, Option.some.injEq, exists_eq_left', List.set_cons_zero, List.set_cons_succ, c_gt, c_lt, c_le, c_ge, c_eq, c_ne, t_bl, t_int, n_add, n_sub, n_mul, n_mod, n_fdiv, n_pow, n_neg, ix_lst, ix_tup, decide_eq_true_eq, decide_eq_false_iff_not, ix_cell g1', hd]
  rw [ws_cons]
  simp only [ws_ife, ws_set, ws_sub, ws_ret_, ws_expr, ws_pass, ws_retn, ws_brk, ws_cnt, x_cmp, x_cmp2, x_ix, x_int, x_bl, x_str, x_non, x_npart, x_bin, x_neg, x_not, x_and, x_or, x_ife, x_lst, x_tup, x_call, x_bi, x_thaw, x_glob, ws_nilE, ws_consE, y_var, List.getElem?_cons_zero, List.getElem?_cons_succ, Option.some.injEq, exists_eq_left', List.set_cons_zero, List.set_cons_succ, c_gt, c_lt, c_le, c_ge, c_eq, c_ne, t_bl, t_int, n_add, n_sub, n_mul, n_mod, n_fdiv, n_pow, n_neg, ix_lst, ix_tup, decide_eq_true_eq, decide_eq_false_iff_not]
  refine pick dr.pick S1.dk (by omega) (by decide) (by decide) fun kd μ2 k0 k1 d2 f2 => ?_
  have S2 := S1.step hl f2 d2
  have g1'' : μ2[f]? = some (.lst ds) := (f2.at_ f (by omega)).trans g1'
  have hd2 : El μ2 μ0.length f R d := by
    obtain ⟨es, e1, _, _, e4⟩ := S2.ds
    rw [g1''] at e1; cases e1
    exact e4 d hm
  have ha : ∀ es, μ2[f]? = some (.lst es) → a < es.length := fun es e => by rw [g1''] at e; cases e; exact a1
  simp only [ws_ife, ws_set, ws_sub, ws_ret_, ws_expr, ws_pass, ws_retn, ws_brk, ws_cnt, x_cmp, x_cmp2, x_ix, x_int, x_bl, x_str, x_non, x_npart, x_bin, x_neg, x_not, x_and, x_or, x_ife, x_lst, x_tup, x_call, x_bi, x_thaw, x_glob, ws_nilE, ws_consE, y_var, List.getElem?_cons_zero, List.getElem?_cons_succ, Option.some.injEq, exists_eq_left', List.set_cons_zero, List.set_cons_succ, c_gt, c_lt, c_le, c_ge, c_eq, c_ne, t_bl, t_int, n_add, n_sub, n_mul, n_mod, n_fdiv, n_pow, n_neg, ix_lst, ix_tup, decide_eq_true_eq, decide_eq_false_iff_not]
  rw [ws_cons]
  have rest : Ws (runSs (tb P (n + 4)) b (.cons (.ife (.cmp .Eq (.var 6) (.int 4)) sB (.cons (.ife (.cmp .Eq (.var 6) (.int 5)) sC (.cons (.ife (.cmp .Eq (.var 6) (.int 6)) sD sE) .nil)) .nil)) .nil) (evB l rs f (some d) o4 (some (.int a)) (some (.int kd)) o7 o8) μ2) Nn Rt Bk Ct X := by
    rw [ws_cons]
    simp only [evB, ws_ife, x_cmp, y_var, x_int, List.getElem?_cons_zero, List.getElem?_cons_succ, Option.some.injEq, exists_eq_left', c_eq, t_bl, decide_eq_true_eq, decide_eq_false_iff_not]
    refine ⟨fun _ => ?_, fun _ => ?_⟩
    · simp only [ws_nil]
      exact brB hr hl hb S2 (by omega) hR (by omega) a0 ha (hn.mono (by omega) (by omega) (Nat.le_refl _))
    · rw [ws_cons]
      simp only [ws_nil, ws_ife, x_cmp, y_var, x_int, List.getElem?_cons_zero, List.getElem?_cons_succ, Option.some.injEq, exists_eq_left', c_eq, t_bl, decide_eq_true_eq, decide_eq_false_iff_not]
      refine ⟨fun _ => ?_, fun _ => ?_⟩
      · exact brC hr hl S2 (by omega) (by omega) hR (hn.mono (by omega) (Nat.le_refl _) (Nat.le_refl _))
      · rw [ws_cons]
        simp only [ws_nil, ws_ife, x_cmp, y_var, x_int, List.getElem?_cons_zero, List.getElem?_cons_succ, Option.some.injEq, exists_eq_left', c_eq, t_bl, decide_eq_true_eq, decide_eq_false_iff_not]
        refine ⟨fun _ => ?_, fun _ => ?_⟩
        · exact brD hl S2 (by omega) (by omega) (by omega) (hn.mono (by omega) (by omega) (Nat.le_refl _))
        · exact brE hl S2 (by omega) a0 ha (hn.mono (by omega) (by omega) (by omega))
  rcases hd2 with ⟨c, ys, rfl, c1, c2, c3, c4, c5⟩ | ⟨p, pl⟩
  · simp only [ws_ife, x_and, x_cmp, x_bi, x_glob, x_lst, ws_consE, ws_nilE, y_var, x_int, List.getElem?_cons_zero, List.getElem?_cons_succ, Option.some.injEq, exists_eq_left', c_lt, t_bl, decide_eq_true_eq, decide_eq_false_iff_not, g_list, isin_of (ty_cell c3) il5, ne_nilC c3 c5 (by decide), List.length_nil, true_implies, Bool.true_eq_false, false_implies, and_true]
    refine ⟨fun _ => ⟨by decide, fun z => ?_, fun _ => ?_⟩, fun _ => ⟨fun z => ?_, fun _ => ?_⟩⟩
    · simp only [ws_nil]
      exact brA hl hb S2 (by omega) (by omega) c1 c2 c3 c4 c5 (by cases ys with | nil => simp at z | cons y ys => simp) (hn.mono (by omega) (by omega) (by omega))
    · simp only [ws_nil]; exact rest
    · first | cases z | omega
    · simp only [ws_nil]; exact rest
  · have hfl : isaT (tyP d) "list" = some false := by rw [isa_list p, pl]
    simp only [ws_ife, x_and, x_cmp, x_bi, x_glob, x_lst, ws_consE, ws_nilE, y_var, x_int, List.getElem?_cons_zero, List.getElem?_cons_succ, Option.some.injEq, exists_eq_left', c_lt, t_bl, decide_eq_true_eq, decide_eq_false_iff_not, g_list, isin_of (Pl.ty p) hfl, List.length_nil, true_implies, Bool.true_eq_false, Bool.false_eq_true, false_implies, and_true, true_and]
    simp only [ws_nil]
    exact ⟨fun _ => rest, fun h => ⟨fun z => absurd z h, fun _ => rest⟩⟩
theorem bent_1 {rs : List (List Int)} (hr : Rw rs) (hl : l < μ0.length) (hb : b = μ0.length) (S : Bt μ0 μ l N f 6 6) (hN : N ≤ 600000) (hn : Tn μ0 l (N + 330) 24 24 rs Nn) :
    Ws (runS (tb P (n + 4)) b s__law_bent_1 (evB l rs f none none none none none none) μ) Nn Rt Bk Ct X := by
  unfold s__law_bent_1
  refine ws_forRange ?_
  simp only [evB, ws_ife, ws_set, ws_sub, ws_ret_, ws_expr, ws_pass, ws_retn, ws_brk, ws_cnt, x_cmp, x_cmp2, x_ix, x_int, x_bl, x_str, x_non, x_npart, x_bin, x_neg, x_not, x_and, x_or, x_ife, x_lst, x_tup, x_call, x_bi, x_thaw, x_glob, ws_nilE, ws_consE, y_var, List.getElem?_cons_zero, List.getElem?_cons_succ, Option.some.injEq, exists_eq_left', List.set_cons_zero, List.set_cons_succ, c_gt, c_lt, c_le, c_ge, c_eq, c_ne, t_bl, t_int, n_add, n_sub, n_mul, n_mod, n_fdiv, n_pow, n_neg, ix_lst, ix_tup, decide_eq_true_eq, decide_eq_false_iff_not, i_r1]
  refine pick dr.pick S.dk (by omega) (by decide) (by decide) fun p μ1 p0 p1 d1 f1 => ?_
  have S1 := S.step hl f1 d1
  simp only [ws_ife, ws_set, ws_sub, ws_ret_, ws_expr, ws_pass, ws_retn, ws_brk, ws_cnt, x_cmp, x_cmp2, x_ix, x_int, x_bl, x_str, x_non, x_npart, x_bin, x_neg, x_not, x_and, x_or, x_ife, x_lst, x_tup, x_call, x_bi, x_thaw, x_glob, ws_nilE, ws_consE, y_var, List.getElem?_cons_zero, List.getElem?_cons_succ, Option.some.injEq, exists_eq_left', List.set_cons_zero, List.set_cons_succ, c_gt, c_lt, c_le, c_ge, c_eq, c_ne, t_bl, t_int, n_add, n_sub, n_mul, n_mod, n_fdiv, n_pow, n_neg, ix_lst, ix_tup, decide_eq_true_eq, decide_eq_false_iff_not, VM.D.int.injEq]
  refine ⟨small_of (by omega) (by omega), 0, _, fun t ρ' μ' => ∃ f o2 o4 o5 o6 o7 o8, ρ' = evB l rs f o2 o4 o5 o6 o7 o8 ∧ Bt μ0 μ' l (N + 1 + 110 * t) f (6 + 6 * t) (6 + 6 * t), rfl, ⟨_, _, _, _, _, _, _, rfl, S1⟩, fun t ρ' μ2 ht hI => ?_, fun ρ' μ' hI => ?_⟩
  · obtain ⟨f, o2, o4, o5, o6, o7, o8, rfl, S2⟩ := hI
    refine turn (o4 := some (.int (0 + (t : Nat)))) hr hl hb S2 (by omega) (by omega) (by omega) (by omega) fun f o2 o4 o5 o6 o7 o8 μ' B => ⟨f, o2, o4, o5, o6, o7, o8, rfl, B.mono (by omega) (by omega) (by omega)⟩
  · obtain ⟨f, o2, o4, o5, o6, o7, o8, rfl, S2⟩ := hI
    exact hn _ _ _ _ _ _ _ _ (S2.mono (by omega) (by omega) (by omega))
theorem bi_tupleC {c : Nat} {ys : List VM.D} (h : μ[c]? = some (.lst ys)) : Wp (biD "tuple" [.cell c] μ) Q E ↔ Q (.tup ys, 0) μ := by
  have e : biD "tuple" [.cell c] μ = .ok (.tup ys, 0) μ := by
    show (match (match μ[c]? with | some (C.lst xs) => some xs | _ => none) with | some xs => R.ok (VM.D.tup xs, 0) μ | none => .bad) = _
    rw [h]
  rw [e]; exact wp_ok
theorem bi_max {i j : Int} : Wp (biD "max" [.int i, .int j] μ) Q E ↔ Q (.int (if j > i then j else i), 0) μ := wp_ok
theorem El.frz {n0 : Nat} {d : VM.D} {ν : Sto} {j : Nat} (h : El μ n0 f R d) (hj : 6 ≤ j) (hν : ∀ c, c ≠ f → ν[c]? = μ[c]?) : ∃ d', VM.frz n0 ν j d = some d' ∧ Pl 4 (R * 614 + 3) d' := by
  rcases h with ⟨c, ys, rfl, h2, h3, h4, h5, h6⟩ | ⟨h1, h2⟩
  · refine ⟨.lst ys, ?_, .lst (k := 3) (wi := 612) ys h6 (by have := Nat.mul_le_mul_right 614 h5; omega)⟩
    obtain ⟨i, rfl⟩ : ∃ i, j = i + 1 := ⟨j - 1, by omega⟩
    show (if c < n0 then some (VM.D.cell c) else match ν[c]? with | some (.lst xs) => (xs.mapM (VM.frz n0 ν i)).map VM.D.lst | _ => none) = _
    rw [if_neg (by omega), hν c h3, h4]
    show (ys.mapM (VM.frz n0 ν i)).map VM.D.lst = _
    rw [mapM_of (g := id) (fun x hx => (h6 x hx).frz (by omega)), List.map_id]; rfl
  · exact ⟨d, h1.frz (by omega), h1⟩
theorem els_frz {n0 : Nat} {ν : Sto} {j : Nat} (hj : 6 ≤ j) (hν : ∀ c, c ≠ f → ν[c]? = μ[c]?) : ∀ {ds : List VM.D}, (∀ d ∈ ds, El μ n0 f R d) → ∃ es, ds.mapM (VM.frz n0 ν j) = some es ∧ es.length = ds.length ∧ ∀ d ∈ es, Pl 4 (R * 614 + 3) d
  | [], _ => ⟨[], by simp, rfl, fun _ h => by cases h⟩
  | d :: ds, h => by
    obtain ⟨es, h1, h2, h3⟩ := els_frz hj hν fun x hx => h x (List.mem_cons_of_mem _ hx)
    obtain ⟨e, g1, g2⟩ := (h d List.mem_cons_self).frz hj hν
    refine ⟨e :: es, by rw [List.mapM_cons, g1, h1]; rfl, by simp [h2], fun x hx => ?_⟩
    rcases List.mem_cons.mp hx with rfl | hx
    · exact g2
    · exact h3 x hx
theorem Bt.out (S : Bt μ0 μ l N f L R) (hl : l < μ0.length) : Dk (μ.take μ0.length) l N ∧ Fr μ0 (μ.take μ0.length) l := by
  have := S.len
  refine ⟨?_, by rw [List.length_take]; omega, fun k hk => ?_⟩
  · obtain ⟨a, bb, c, e, r⟩ := S.dk
    exact ⟨a, bb, c, by rw [List.getElem?_take, if_pos hl]; exact e, r⟩
  · rw [List.getElem?_take]
    split
    · rename_i h; exact S.fr k h hk
    · rename_i h; rw [List.getElem?_eq_none (by omega)]
theorem bent {rs : List (List Int)} (hr : Rw rs) (hd : Dk μ l N) (hN : N ≤ 500000) (k : ∀ d f μ', Pl 5 400000 d → Dk μ' l (N + 400) → Fr μ μ' l → Q (d, f) μ') : Wp ((tb P (n + 5)).call "_law_bent" b [.cell l, rowsD rs] μ) Q E := by
  have hl := hd.lt
  refine (wp_call q__law_bent).mpr ((wp_run (by rfl)).mpr ?_)
  unfold b__law_bent
  simp only [List.map_cons, List.map_nil, List.replicate, List.cons_append, List.nil_append]
  rw [ws_cons]
  refine bent_0 (n := n + 1) hr hd fun f μ1 S => ?_
  rw [ws_cons]
  refine bent_1 hr hl rfl S (by omega) fun f o2 o4 o5 o6 o7 o8 μ2 S => ?_
  unfold s__law_bent_2
  obtain ⟨ds, g1, g2, g3, g4⟩ := S.ds
  simp only [evB, ws_cons, ws_nil, ws_ife, ws_set, ws_sub, ws_ret_, ws_expr, ws_pass, ws_retn, ws_brk, ws_cnt, x_cmp, x_cmp2, x_ix, x_int, x_bl, x_str, x_non, x_npart, x_bin, x_neg, x_not, x_and, x_or, x_ife, x_lst, x_tup, x_call, x_bi, x_thaw, x_glob, ws_nilE, ws_consE, y_var, List.getElem?_cons_zero, List.getElem?_cons_succ, Option.some.injEq, exists_eq_left', List.set_cons_zero, List.set_cons_succ, c_gt, c_lt, c_le, c_ge, c_eq, c_ne, t_bl, t_int, n_add, n_sub, n_mul, n_mod, n_fdiv, n_pow, n_neg, ix_lst, ix_tup, decide_eq_true_eq, decide_eq_false_iff_not, bi_tupleC g1, List.length_cons, List.length_nil]
  refine ⟨by decide, by decide, pick dr.pick S.dk (by omega) (by decide) (by decide) fun p μ3 p0 p1 d3 f3 => ?_⟩
  have S3 := S.step hl f3 d3
  have g1' : μ3[f]? = some (.lst ds) := (f3.at_ f (by have := S.lo; omega)).trans g1
  have g4' : ∀ d ∈ ds, El μ3 μ.length f 24 d := by
    obtain ⟨es, e1, _, _, e4⟩ := S3.ds
    rw [g1'] at e1; cases e1
    exact e4
  obtain ⟨o1, o2'⟩ := S3.out hl
  simp only [ws_ife, ws_set, ws_sub, ws_ret_, ws_expr, ws_pass, ws_retn, ws_brk, ws_cnt, x_cmp, x_cmp2, x_ix, x_int, x_bl, x_str, x_non, x_npart, x_bin, x_neg, x_not, x_and, x_or, x_ife, x_lst, x_tup, x_call, x_bi, x_thaw, x_glob, ws_nilE, ws_consE, y_var, List.getElem?_cons_zero, List.getElem?_cons_succ, Option.some.injEq, exists_eq_left', List.set_cons_zero, List.set_cons_succ, c_gt, c_lt, c_le, c_ge, c_eq, c_ne, t_bl, t_int, n_add, n_sub, n_mul, n_mod, n_fdiv, n_pow, n_neg, ix_lst, ix_tup, decide_eq_true_eq, decide_eq_false_iff_not, bi_max]
  generalize hi : (if p - 7 > 0 then p - 7 else 0 : Int) = i
  have i0 : 0 ≤ i := by rw [← hi]; split <;> omega
  have i1 : i < 5 := by rw [← hi]; split <;> omega
  obtain ⟨v, hv, hm⟩ := one (xs := [VM.D.cell f, .tup ds, .str "1", .lst [], .cell f]) (i := i) i0 (by simpa using i1)
  simp only [hv, Option.some.injEq, exists_eq_left']
  have len : ds.length ≤ 24 := g3
  have cellOut : ∃ x, frzTop μ.length (.cell f) 0 μ3 = some x ∧ Q x (μ3.take μ.length) := by
    obtain ⟨es, e1, e2, e3⟩ := els_frz (μ := μ3) (ν := μ3.set f (.dct [])) (j := 9) (by decide) (fun c hc => List.getElem?_set_ne (Ne.symm hc)) g4'
    refine ⟨(.lst es, 1), ?_, k _ _ _ (.lst es e3 ?_) (o1.mono (by omega)) o2'⟩
    · show (if f < μ.length then _ else match μ3[f]? with
        | some (.lst xs) => (xs.mapM (VM.frz μ.length (μ3.set f (.dct [])) 9)).map fun ys => (VM.D.lst ys, 1)
        | _ => none) = _
      rw [if_neg (by have := S.lo; omega), g1']
      show (ds.mapM (VM.frz μ.length (μ3.set f (.dct [])) 9)).map _ = _
      rw [e1]; rfl
    · rw [e2]; omega
  simp only [List.mem_cons, List.not_mem_nil, or_false] at hm
  rcases hm with rfl | rfl | rfl | rfl | rfl
  · exact cellOut
  · obtain ⟨es, e1, e2, e3⟩ := els_frz (μ := μ3) (ν := μ3) (j := 8) (by decide) (fun c hc => rfl) g4'
    refine ⟨(.tup es, 0), ?_, k _ _ _ (.tup es e3 ?_) (o1.mono (by omega)) o2'⟩
    · show ((ds.mapM (VM.frz μ.length μ3 8)).map VM.D.tup).map _ = _
      rw [e1]; rfl
    · rw [e2]; omega
  · exact ⟨_, rfl, k _ _ _ (.str _ (by decide +kernel) (Nat.le_trans (by decide +kernel : 10 * ("1" : Str).length + 2 ≤ 12) (by decide))) (o1.mono (by omega)) o2'⟩
  · exact ⟨_, rfl, k _ _ _ (.lst (k := 4) (wi := 0) [] (fun _ h => by cases h) (by decide)) (o1.mono (by omega)) o2'⟩
  · exact cellOut
end
end Law

set_option Elab.async false
set_option maxRecDepth 10000
set_option autoImplicit false
set_option linter.unusedVariables false
set_option linter.unusedSimpArgs false
namespace Law
open PySem VM
open L2 (atI ixN)
variable {E : Exc → Sto → Prop} {n b l N : Nat} {μ : Sto} {Q : VM.D × Nat → Sto → Prop}
theorem sl_scr {ns : List Int} {lo hi : Option Int} : Wp (slD (.scr ns) lo hi μ) Q E ↔ Q (.lst (cutD (ns.map .int) lo hi), 1) μ := wp_ok
theorem ws_set2 {T : Tb} {ρ : Ev} {i j : Nat} {e : VM.E} {Nn Bk Ct : Ev → Sto → Prop} {Rt : VM.D → Nat → Sto → Prop} {X : Exc → Ev → Sto → Prop} (h : Wp (evE T b e ρ μ) (fun d μ1 => ∃ x y, d.1 = .tup [x, y] ∧ Nn ((ρ.set i (some x)).set j (some y)) μ1) (fun x μ => X x ρ μ)) :
    Ws (runS T b (.set (.tup (.cons (.name i) (.cons (.name j) .nil))) e) ρ μ) Nn Rt Bk Ct X := by
  show Ws ((evE T b e ρ μ).st ρ fun d μ1 => onlyNx (asg T b (.tup (.cons (.name i) (.cons (.name j) .nil))) d.1 ρ μ1)) Nn Rt Bk Ct X
  rw [ws_st]
  refine wp_mono h (fun d μ1 ⟨x, y, e, q⟩ => ?_) fun _ _ h => h
  rw [e]
  exact ws_nx.mpr q
theorem ne_bl {k : Bool} : cmpD .NotEq (.bl k) (.bl k) μ = some false := by
  have e : ∀ k : Bool, (if SeqAt.shaped (.bool k) && SeqAt.shaped (.bool k) then some (PyData.eqv (.bool k) (.bool k)) else none) = some true := by decide +kernel
  show ((if SeqAt.shaped (.bool k) && SeqAt.shaped (.bool k) then some (PyData.eqv (.bool k) (.bool k)) else none)).map (fun k => !k) = _
  rw [e]; rfl
theorem ne_str {s : Str} : cmpD .NotEq (.str s) (.str s) μ = some false := by
  show (some (decide (s = s))).map (fun k => !k) = _
  simp
theorem text_of {k w : Nat} {d : VM.D} (h : Pl k w d) (hk : k < 9) (hw : w ≤ 16000000) : ∃ s : Str, ∀ (ν : Sto) (Q : VM.D × Nat → Sto → Prop) (E : Exc → Sto → Prop), Wp (biD "str*" [d] ν) Q E ↔ Q (.str s, 0) ν := by
  obtain ⟨s, e⟩ := h.text hk hw
  refine ⟨s, fun ν Q E => ?_⟩
  have : biD "str*" [d] ν = .ok (.str s, 0) ν := e ν
  rw [this]; exact wp_ok
theorem cut_ints {ns : List Int} {lo hi : Option Int} : ∀ d ∈ cutD (ns.map VM.D.int) lo hi, ∃ z : Int, d = .int z := fun d hd => by
  obtain ⟨z, _, rfl⟩ := List.mem_map.mp (cut_sub.2 d hd)
  exact ⟨z, rfl⟩
abbrev evL (ns : List Int) (o1 o2 o3 o4 o5 o6 o7 o8 o9 : Option VM.D) : Ev := [some (.scr ns), o1, o2, o3, o4, o5, o6, o7, o8, o9]
section
variable {Nn Bk Ct : Ev → Sto → Prop} {Rt : VM.D → Nat → Sto → Prop} {X : Exc → Ev → Sto → Prop}
abbrev inner : VM.S := .for_ (.name 8) (.rng1 (.int 2)) (.cons (.set (.name 9) (.call "are_rows" (.cons (.var 6) .nil)))
  (.cons (.ife (.or (.not (.bi "isinstance" (.cons (.var 9) (.cons (.glob "bool") .nil)))) (.or (.cmp .NotEq (.var 9) (.call "_law_are_rows" (.cons (.var 6) .nil))) (.cmp .NotEq (.bi "str*" (.cons (.var 6) .nil)) (.var 7)))) (.cons (.ret (.bl false))
  .nil) .nil)
  .nil))
theorem inner_ok {ns : List Int} {d : VM.D} {s : Str} {o1 o2 o3 o4 o5 o8 o9 : Option VM.D} (p : Pl 8 400000 d) (hs : ∀ (ν : Sto) (Q : VM.D × Nat → Sto → Prop) (E : Exc → Sto → Prop), Wp (biD "str*" [d] ν) Q E ↔ Q (.str s, 0) ν)
    (hn : ∀ o8 o9, Nn (evL ns o1 o2 o3 o4 o5 (some d) (some (.str s)) o8 o9) μ) : Ws (runS (tb P 9) b inner (evL ns o1 o2 o3 o4 o5 (some d) (some (.str s)) o8 o9) μ) Nn Rt Bk Ct X := by
  refine ws_forRange ?_
  simp only [evL, ws_ife, ws_set, ws_sub, ws_ret_, ws_expr, ws_pass, ws_retn, ws_brk, ws_cnt, x_cmp, x_cmp2, x_ix, x_int, x_bl, x_str, x_non, x_npart, x_bin, x_neg, x_not, x_and, x_or, x_ife, x_lst, x_tup, x_call, x_bi, x_thaw, x_glob, ws_nilE, ws_consE, y_var, List.getElem?_cons_zero, List.getElem?_cons_succ, Option.some.injEq, exists_eq_left', List.set_cons_zero, List.set_cons_succ, c_gt, c_lt, c_le, c_ge, c_eq, c_ne, t_bl, t_int, n_add, n_sub, n_mul, n_mod, n_fdiv, n_pow, n_neg, ix_lst, ix_tup, decide_eq_true_eq, decide_eq_false_iff_not, i_r1, VM.D.int.injEq]
  refine ⟨by decide, 0, _, fun t ρ' μ' => μ' = μ ∧ ∃ o8 o9, ρ' = evL ns o1 o2 o3 o4 o5 (some d) (some (.str s)) o8 o9, rfl, ⟨rfl, _, _, rfl⟩, fun t ρ' μ2 ht hI => ?_, fun ρ' μ' hI => ?_⟩
  · obtain ⟨rfl, o8, o9, rfl⟩ := hI
    simp only [evL, ws_ife, ws_set, ws_sub, ws_ret_, ws_expr, ws_pass, ws_retn, ws_brk, ws_cnt, x_cmp, x_cmp2, x_ix, x_int, x_bl, x_str, x_non, x_npart, x_bin, x_neg, x_not, x_and, x_or, x_ife, x_lst, x_tup, x_call, x_bi, x_thaw, x_glob, ws_nilE, ws_consE, y_var, List.getElem?_cons_zero, List.getElem?_cons_succ, Option.some.injEq, exists_eq_left', List.set_cons_zero, List.set_cons_succ, c_gt, c_lt, c_le, c_ge, c_eq, c_ne, t_bl, t_int, n_add, n_sub, n_mul, n_mod, n_fdiv, n_pow, n_neg, ix_lst, ix_tup, decide_eq_true_eq, decide_eq_false_iff_not]
    rw [ws_cons]
    simp only [ws_ife, ws_set, ws_sub, ws_ret_, ws_expr, ws_pass, ws_retn, ws_brk, ws_cnt, x_cmp, x_cmp2, x_ix, x_int, x_bl, x_str, x_non, x_npart, x_bin, x_neg, x_not, x_and, x_or, x_ife, x_lst, x_tup, x_call, x_bi, x_thaw, x_glob, ws_nilE, ws_consE, y_var, List.getElem?_cons_zero, List.getElem?_cons_succ, Option.some.injEq, exists_eq_left', List.set_cons_zero, List.set_cons_succ, c_gt, c_lt, c_le, c_ge, c_eq, c_ne, t_bl, t_int, n_add, n_sub, n_mul, n_mod, n_fdiv, n_pow, n_neg, ix_lst, ix_tup, decide_eq_true_eq, decide_eq_false_iff_not]
    refine are_rows (n := 6) p (by decide) ?_
    rw [ws_cons]
    simp only [ws_ife, ws_set, ws_sub, ws_ret_, ws_expr, ws_pass, ws_retn, ws_brk, ws_cnt, x_cmp, x_cmp2, x_ix, x_int, x_bl, x_str, x_non, x_npart, x_bin, x_neg, x_not, x_and, x_or, x_ife, x_lst, x_tup, x_call, x_bi, x_thaw, x_glob, ws_nilE, ws_consE, y_var, List.getElem?_cons_zero, List.getElem?_cons_succ, Option.some.injEq, exists_eq_left', List.set_cons_zero, List.set_cons_succ, c_gt, c_lt, c_le, c_ge, c_eq, c_ne, t_bl, t_int, n_add, n_sub, n_mul, n_mod, n_fdiv, n_pow, n_neg, ix_lst, ix_tup, decide_eq_true_eq, decide_eq_false_iff_not, g_bool, isin_of (show tyD μ2 (.bl (areRows d)) = some "bool" from rfl) ib2, Bool.not_true, Bool.false_eq_true, Bool.true_eq_false, false_implies, true_implies, and_true, true_and]
    refine law_are_rows (n := 6) p (by decide) (by decide) ?_
    simp only [ws_ife, ws_set, ws_sub, ws_ret_, ws_expr, ws_pass, ws_retn, ws_brk, ws_cnt, x_cmp, x_cmp2, x_ix, x_int, x_bl, x_str, x_non, x_npart, x_bin, x_neg, x_not, x_and, x_or, x_ife, x_lst, x_tup, x_call, x_bi, x_thaw, x_glob, ws_nilE, ws_consE, y_var, List.getElem?_cons_zero, List.getElem?_cons_succ, Option.some.injEq, exists_eq_left', List.set_cons_zero, List.set_cons_succ, c_gt, c_lt, c_le, c_ge, c_eq, c_ne, t_bl, t_int, n_add, n_sub, n_mul, n_mod, n_fdiv, n_pow, n_neg, ix_lst, ix_tup, decide_eq_true_eq, decide_eq_false_iff_not, ne_bl, hs, ne_str, Bool.false_eq_true, Bool.true_eq_false, false_implies, true_implies, and_true, true_and, ws_nil]
    exact ⟨_, _, rfl⟩
  · obtain ⟨rfl, o8, o9, rfl⟩ := hI
    exact hn _ _
theorem law_0 {ns : List Int} (hns : ns.length ≤ 63) (hn : ∀ o1 o2 o3 o4 o5 o6 o7 o8 o9 μ', Nn (evL ns o1 o2 o3 o4 o5 o6 o7 o8 o9) μ') :
    Ws (runS (tb P 9) b s_law_0 (evL ns none none none none none none none none none) μ) Nn Rt Bk Ct X := by
  unfold s_law_0
  refine ws_for ?_
  simp only [evL, ws_ife, ws_set, ws_sub, ws_ret_, ws_expr, ws_pass, ws_retn, ws_brk, ws_cnt, x_cmp, x_cmp2, x_ix, x_int, x_bl, x_str, x_non, x_npart, x_bin, x_neg, x_not, x_and, x_or, x_ife, x_lst, x_tup, x_call, x_bi, x_thaw, x_glob, ws_nilE, ws_consE, y_var, List.getElem?_cons_zero, List.getElem?_cons_succ, Option.some.injEq, exists_eq_left', List.set_cons_zero, List.set_cons_succ, c_gt, c_lt, c_le, c_ge, c_eq, c_ne, t_bl, t_int, n_add, n_sub, n_mul, n_mod, n_fdiv, n_pow, n_neg, ix_lst, ix_tup, decide_eq_true_eq, decide_eq_false_iff_not, i_exD, x_slc, sl_scr, partD, add_lst, List.length_cons, List.length_nil]
  have cl := (cut_sub (xs := ns.map VM.D.int) (lo := none) (hi := some 6)).1
  rw [List.length_map] at cl
  refine ⟨by decide, Nat.le_of_lt (szr (by omega)), _, rfl, _, fun k ρ' μ' => ∃ o1 o2 o3 o4 o5 o6 o7 o8 o9, ρ' = evL ns o1 o2 o3 o4 o5 o6 o7 o8 o9, fun _ _ _ _ => src_data _, by rfl, ⟨_, _, _, _, _, _, _, _, _, rfl⟩, fun k x ρ' μ1 hx hI => ?_, fun ρ' μ' hI => ?_⟩
  · obtain ⟨o1, o2, o3, o4, o5, o6, o7, o8, o9, rfl⟩ := hI
    have hz : ∃ z : Int, x = .int z := by
      have hm := List.mem_of_getElem? hx
      rcases List.mem_append.mp hm with hm | hm
      · exact ⟨0, by simpa using hm⟩
      · exact cut_ints x hm
    obtain ⟨z, rfl⟩ := hz
    try simp only [evL, ws_ife, ws_set, ws_sub, ws_ret_, ws_expr, ws_pass, ws_retn, ws_brk, ws_cnt, x_cmp, x_cmp2, x_ix, x_int, x_bl, x_str, x_non, x_npart, x_bin, x_neg, x_not, x_and, x_or, x_ife, x_lst, x_tup, x_call, x_bi, x_thaw, x_glob, ws_nilE, ws_consE, y_var, List.getElem?_cons_zero, List.getElem?_cons_succ, Option.some.injEq, exists_eq_left', List.set_cons_zero, List.set_cons_succ, c_gt, c_lt, c_le, c_ge, c_eq, c_ne, t_bl, t_int, n_add, n_sub, n_mul, n_mod, n_fdiv, n_pow, n_neg, ix_lst, ix_tup, decide_eq_true_eq, decide_eq_false_iff_not]
    rw [ws_cons]
    simp only [ws_ife, ws_set, ws_sub, ws_ret_, ws_expr, ws_pass, ws_retn, ws_brk, ws_cnt, x_cmp, x_cmp2, x_ix, x_int, x_bl, x_str, x_non, x_npart, x_bin, x_neg, x_not, x_and, x_or, x_ife, x_lst, x_tup, x_call, x_bi, x_thaw, x_glob, ws_nilE, ws_consE, y_var, List.getElem?_cons_zero, List.getElem?_cons_succ, Option.some.injEq, exists_eq_left', List.set_cons_zero, List.set_cons_succ, c_gt, c_lt, c_le, c_ge, c_eq, c_ne, t_bl, t_int, n_add, n_sub, n_mul, n_mod, n_fdiv, n_pow, n_neg, ix_lst, ix_tup, decide_eq_true_eq, decide_eq_false_iff_not]
    refine deck (n := 8) q__law_deck fun a c c0 c1 => ?_
    refine ⟨_, 0, rfl, ?_⟩
    have dk : Dk (μ1 ++ [.lst [.int a, .int c, .int 0]]) μ1.length 0 := ⟨a, c, 0, by rw [List.getElem?_append_right (Nat.le_refl _)]; simp, c0, c1, by decide, by decide⟩
    generalize μ1.length = l at dk ⊢
    generalize μ1 ++ [C.lst [.int a, .int c, .int 0]] = ν at dk ⊢
    rw [ws_cons]
    refine ws_set2 ?_
    simp only [ws_ife, ws_set, ws_sub, ws_ret_, ws_expr, ws_pass, ws_retn, ws_brk, ws_cnt, x_cmp, x_cmp2, x_ix, x_int, x_bl, x_str, x_non, x_npart, x_bin, x_neg, x_not, x_and, x_or, x_ife, x_lst, x_tup, x_call, x_bi, x_thaw, x_glob, ws_nilE, ws_consE, y_var, List.getElem?_cons_zero, List.getElem?_cons_succ, Option.some.injEq, exists_eq_left', List.set_cons_zero, List.set_cons_succ, c_gt, c_lt, c_le, c_ge, c_eq, c_ne, t_bl, t_int, n_add, n_sub, n_mul, n_mod, n_fdiv, n_pow, n_neg, ix_lst, ix_tup, decide_eq_true_eq, decide_eq_false_iff_not]
    refine size (n := 7) dk (by decide) fun many long ν1 m1 m2 m3 d1 f1 => ⟨_, _, rfl, ?_⟩
    try simp only [ws_ife, ws_set, ws_sub, ws_ret_, ws_expr, ws_pass, ws_retn, ws_brk, ws_cnt, x_cmp, x_cmp2, x_ix, x_int, x_bl, x_str, x_non, x_npart, x_bin, x_neg, x_not, x_and, x_or, x_ife, x_lst, x_tup, x_call, x_bi, x_thaw, x_glob, ws_nilE, ws_consE, y_var, List.getElem?_cons_zero, List.getElem?_cons_succ, Option.some.injEq, exists_eq_left', List.set_cons_zero, List.set_cons_succ, c_gt, c_lt, c_le, c_ge, c_eq, c_ne, t_bl, t_int, n_add, n_sub, n_mul, n_mod, n_fdiv, n_pow, n_neg, ix_lst, ix_tup, decide_eq_true_eq, decide_eq_false_iff_not]
    rw [ws_cons]
    simp only [ws_ife, ws_set, ws_sub, ws_ret_, ws_expr, ws_pass, ws_retn, ws_brk, ws_cnt, x_cmp, x_cmp2, x_ix, x_int, x_bl, x_str, x_non, x_npart, x_bin, x_neg, x_not, x_and, x_or, x_ife, x_lst, x_tup, x_call, x_bi, x_thaw, x_glob, ws_nilE, ws_consE, y_var, List.getElem?_cons_zero, List.getElem?_cons_succ, Option.some.injEq, exists_eq_left', List.set_cons_zero, List.set_cons_succ, c_gt, c_lt, c_le, c_ge, c_eq, c_ne, t_bl, t_int, n_add, n_sub, n_mul, n_mod, n_fdiv, n_pow, n_neg, ix_lst, ix_tup, decide_eq_true_eq, decide_eq_false_iff_not]
    refine rows (n := 6) dr m1 (by omega) (by omega) (by omega) d1 (by decide) fun rd _ ν2 hr d2 f2 => ?_
    have pr := hr.plain (by decide)
    obtain ⟨rs, rfl, hr2, hr3⟩ := hr
    have rw_ : Rw rs := ⟨by omega, by omega, fun r hr => by
      obtain ⟨e1, e2⟩ := hr3 r hr
      exact ⟨by omega, by omega, fun x hx => Nat.lt_trans (e2 x hx) (by decide)⟩⟩
    simp only [ws_ife, ws_set, ws_sub, ws_ret_, ws_expr, ws_pass, ws_retn, ws_brk, ws_cnt, x_cmp, x_cmp2, x_ix, x_int, x_bl, x_str, x_non, x_npart, x_bin, x_neg, x_not, x_and, x_or, x_ife, x_lst, x_tup, x_call, x_bi, x_thaw, x_glob, ws_nilE, ws_consE, y_var, List.getElem?_cons_zero, List.getElem?_cons_succ, Option.some.injEq, exists_eq_left', List.set_cons_zero, List.set_cons_succ, c_gt, c_lt, c_le, c_ge, c_eq, c_ne, t_bl, t_int, n_add, n_sub, n_mul, n_mod, n_fdiv, n_pow, n_neg, ix_lst, ix_tup, decide_eq_true_eq, decide_eq_false_iff_not]
    rw [ws_cons]
    refine ws_for ?_
    simp only [ws_ife, ws_set, ws_sub, ws_ret_, ws_expr, ws_pass, ws_retn, ws_brk, ws_cnt, x_cmp, x_cmp2, x_ix, x_int, x_bl, x_str, x_non, x_npart, x_bin, x_neg, x_not, x_and, x_or, x_ife, x_lst, x_tup, x_call, x_bi, x_thaw, x_glob, ws_nilE, ws_consE, y_var, List.getElem?_cons_zero, List.getElem?_cons_succ, Option.some.injEq, exists_eq_left', List.set_cons_zero, List.set_cons_succ, c_gt, c_lt, c_le, c_ge, c_eq, c_ne, t_bl, t_int, n_add, n_sub, n_mul, n_mod, n_fdiv, n_pow, n_neg, ix_lst, ix_tup, decide_eq_true_eq, decide_eq_false_iff_not, i_exD, List.length_cons, List.length_nil]
    refine bent (n := 4) rw_ d2 (by decide) fun bd _ ν3 pb d3 f3 => ?_
    refine thing 4 (by decide) (n := 3) d3 (by unfold Kp Kp Kp Kp Kp; omega) fun td _ ν4 pt d4 f4 => ?_
    simp only [ws_ife, ws_set, ws_sub, ws_ret_, ws_expr, ws_pass, ws_retn, ws_brk, ws_cnt, x_cmp, x_cmp2, x_ix, x_int, x_bl, x_str, x_non, x_npart, x_bin, x_neg, x_not, x_and, x_or, x_ife, x_lst, x_tup, x_call, x_bi, x_thaw, x_glob, ws_nilE, ws_consE, y_var, List.getElem?_cons_zero, List.getElem?_cons_succ, Option.some.injEq, exists_eq_left', List.set_cons_zero, List.set_cons_succ, c_gt, c_lt, c_le, c_ge, c_eq, c_ne, t_bl, t_int, n_add, n_sub, n_mul, n_mod, n_fdiv, n_pow, n_neg, ix_lst, ix_tup, decide_eq_true_eq, decide_eq_false_iff_not, List.length_cons, List.length_nil]
    have sz : many * (long * 66 + 3 + 2) + 3 ≤ 400000 := by
      have : many * (long * 66 + 3 + 2) ≤ 6 * (6 * 66 + 3 + 2) := Nat.mul_le_mul (by omega) (by omega)
      omega
    refine ⟨by decide, _, rfl, [rowsD rs, bd, td], fun k ρ' μ' => ∃ o1 o2 o3 o4 o5 o6 o7 o8 o9, ρ' = evL ns o1 o2 o3 o4 o5 o6 o7 o8 o9, fun _ _ _ _ => src_data _, by rfl, ⟨_, _, _, _, _, _, _, _, _, rfl⟩, fun k x ρ' μ5 hx hI => ?_, fun ρ' μ' hI => ?_⟩
    · obtain ⟨o1, o2, o3, o4, o5, o6, o7, o8, o9, rfl⟩ := hI
      have p : Pl 8 400000 x := by
        have hm := List.mem_of_getElem? hx
        simp only [List.mem_cons, List.not_mem_nil, or_false] at hm
        rcases hm with rfl | rfl | rfl
        · exact pr.mono (by decide) sz
        · exact pb.mono (by decide) (by decide)
        · exact pt.mono (by decide) (by decide)
      obtain ⟨s, hs⟩ := text_of p (by decide) (by decide)
      simp only [evL, ws_ife, ws_set, ws_sub, ws_ret_, ws_expr, ws_pass, ws_retn, ws_brk, ws_cnt, x_cmp, x_cmp2, x_ix, x_int, x_bl, x_str, x_non, x_npart, x_bin, x_neg, x_not, x_and, x_or, x_ife, x_lst, x_tup, x_call, x_bi, x_thaw, x_glob, ws_nilE, ws_consE, y_var, List.getElem?_cons_zero, List.getElem?_cons_succ, Option.some.injEq, exists_eq_left', List.set_cons_zero, List.set_cons_succ, c_gt, c_lt, c_le, c_ge, c_eq, c_ne, t_bl, t_int, n_add, n_sub, n_mul, n_mod, n_fdiv, n_pow, n_neg, ix_lst, ix_tup, decide_eq_true_eq, decide_eq_false_iff_not]
      rw [ws_cons]
      simp only [ws_ife, ws_set, ws_sub, ws_ret_, ws_expr, ws_pass, ws_retn, ws_brk, ws_cnt, x_cmp, x_cmp2, x_ix, x_int, x_bl, x_str, x_non, x_npart, x_bin, x_neg, x_not, x_and, x_or, x_ife, x_lst, x_tup, x_call, x_bi, x_thaw, x_glob, ws_nilE, ws_consE, y_var, List.getElem?_cons_zero, List.getElem?_cons_succ, Option.some.injEq, exists_eq_left', List.set_cons_zero, List.set_cons_succ, c_gt, c_lt, c_le, c_ge, c_eq, c_ne, t_bl, t_int, n_add, n_sub, n_mul, n_mod, n_fdiv, n_pow, n_neg, ix_lst, ix_tup, decide_eq_true_eq, decide_eq_false_iff_not, hs]
      rw [ws_cons]
      refine inner_ok p hs fun o8 o9 => ?_
      rw [ws_nil]
      exact ⟨_, _, _, _, _, _, _, _, _, rfl⟩
    · obtain ⟨o1, o2, o3, o4, o5, o6, o7, o8, o9, rfl⟩ := hI
      rw [ws_nil]
      exact ⟨_, _, _, _, _, _, _, _, _, rfl⟩
  · obtain ⟨o1, o2, o3, o4, o5, o6, o7, o8, o9, rfl⟩ := hI
    exact hn _ _ _ _ _ _ _ _ _ _
end
theorem run_law : ∀ ns : List Int, ns.length ≤ 63 → (∀ z ∈ ns, Builtin.Int.intBits z ≤ 1048576) → ∃ f μ, runFn (tb (pgOf tab glob) 9) (lawFn (tab.map (·.x)) d_law) 0 [.scr ns] [] = .ok (.bl true, f) μ := by
  intro ns hns _
  have h : Wp (runFn (tb P 9) f_law 0 [.scr ns] []) (fun d _ => d.1 = .bl true) NoX := by
    refine (wp_run (by rfl)).mpr ?_
    unfold b_law s_law_1
    simp only [List.map_cons, List.map_nil, List.replicate, List.cons_append, List.nil_append]
    rw [ws_cons]
    refine law_0 hns fun o1 o2 o3 o4 o5 o6 o7 o8 o9 μ' => ?_
    simp only [evL, ws_cons, ws_nil, ws_ife, ws_set, ws_sub, ws_ret_, ws_expr, ws_pass, ws_retn, ws_brk, ws_cnt, x_cmp, x_cmp2, x_ix, x_int, x_bl, x_str, x_non, x_npart, x_bin, x_neg, x_not, x_and, x_or, x_ife, x_lst, x_tup, x_call, x_bi, x_thaw, x_glob, ws_nilE, ws_consE, y_var, List.getElem?_cons_zero, List.getElem?_cons_succ, Option.some.injEq, exists_eq_left', List.set_cons_zero, List.set_cons_succ, c_gt, c_lt, c_le, c_ge, c_eq, c_ne, t_bl, t_int, n_add, n_sub, n_mul, n_mod, n_fdiv, n_pow, n_neg, ix_lst, ix_tup, decide_eq_true_eq, decide_eq_false_iff_not]
    exact ⟨_, rfl, rfl⟩
  show ∃ f μ, runFn (tb P 9) (lawFn nms d_law) 0 [.scr ns] [] = .ok (.bl true, f) μ
  rw [e_law]
  cases q : runFn (tb P 9) f_law 0 [.scr ns] [] with
  | ok d ν =>
    rw [q] at h
    obtain ⟨d, f⟩ := d
    have h := wp_ok.mp h
    have h : d = .bl true := h
    subst h
    exact ⟨f, ν, rfl⟩
  | err x ν => rw [q] at h; exact (wp_err.mp h).elim
  | bad => rw [q] at h; exact (wp_bad.mp h).elim
end Law

set_option Elab.async false
set_option maxRecDepth 100000
set_option linter.all false
namespace Law
open PySem PySem.Spec PyProof.Rows L2 VM
theorem def_mk {K : PySem.W.Frag} {mg : Str → Option Value} {h : Heap} (X : K.In h) (Gn : h.Ns mainGlobals mg) {x : Str} {st : Stmt} {N ps : List Str} {f : Addr} {oc : Value} {od an : Option Addr} {osl : Array (Option Value)} {kV doc pm cdv ct : Value}
    (a : PySem.W.nsIn K mainGlobals x = some (some (.ref f))) (l : K.lookup f = some ⟨oc, od, .func (PySem.W.fnOf x x (defArgs st) (defBody st) (defScope st) .none kV doc pm an cdv ct), osl⟩) (c : PySem.W.codeIn K cdv x = true) (k : PySem.W.keepIn K (.ref f) = true)
    (b : ∀ (kV doc pm : Value) (an : Option Addr) (cdv ct : Value) (us : List Value), us.length = ps.length → bindArgs (PySem.W.fnOf x x (defArgs st) (defBody st) (defScope st) .none kV doc pm an cdv ct) ⟨us, []⟩ = pure (ps.zip us)) (sc : FnScope N ps (defScope st)) :
    ∃ fa fd, mg x = some (.ref fa) ∧ Fun K x x st fa fd ∧ Binds K fd ps [] ∧ FnScope N ps (defScope st) :=
  ⟨f, _, PySem.W.mg_of X Gn a, fun_mk l c k, (fun_mk l c k).binds b, sc⟩
theorem all_cons {α : Type} {p : α → Prop} {a : α} {l : List α} (h : p a) (t : ∀ x ∈ l, p x) : ∀ x ∈ a :: l, p x := List.forall_mem_cons.mpr ⟨h, t⟩
theorem all_nil {α : Type} {p : α → Prop} : ∀ x ∈ ([] : List α), p x := fun _ h => by cases h
theorem sc_is_whole : FnScope d_is_whole.N d_is_whole.ps (defScope d_is_whole.st) := ⟨rfl, rfl, rfl, by decide +kernel, rfl, by decide +kernel, by decide +kernel⟩
theorem sc_is_row : FnScope d_is_row.N d_is_row.ps (defScope d_is_row.st) := ⟨rfl, rfl, rfl, by decide +kernel, rfl, by decide +kernel, by decide +kernel⟩
theorem sc_are_rows : FnScope d_are_rows.N d_are_rows.ps (defScope d_are_rows.st) := ⟨rfl, rfl, rfl, by decide +kernel, rfl, by decide +kernel, by decide +kernel⟩
theorem sc__law_deck : FnScope d__law_deck.N d__law_deck.ps (defScope d__law_deck.st) := ⟨rfl, rfl, rfl, by decide +kernel, rfl, by decide +kernel, by decide +kernel⟩
theorem sc__law_pick : FnScope d__law_pick.N d__law_pick.ps (defScope d__law_pick.st) := ⟨rfl, rfl, rfl, by decide +kernel, rfl, by decide +kernel, by decide +kernel⟩
theorem sc__law_number : FnScope d__law_number.N d__law_number.ps (defScope d__law_number.st) := ⟨rfl, rfl, rfl, by decide +kernel, rfl, by decide +kernel, by decide +kernel⟩
theorem sc__law_rows : FnScope d__law_rows.N d__law_rows.ps (defScope d__law_rows.st) := ⟨rfl, rfl, rfl, by decide +kernel, rfl, by decide +kernel, by decide +kernel⟩
theorem sc__law_size : FnScope d__law_size.N d__law_size.ps (defScope d__law_size.st) := ⟨rfl, rfl, rfl, by decide +kernel, rfl, by decide +kernel, by decide +kernel⟩
theorem sc__law_whole : FnScope d__law_whole.N d__law_whole.ps (defScope d__law_whole.st) := ⟨rfl, rfl, rfl, by decide +kernel, rfl, by decide +kernel, by decide +kernel⟩
theorem sc__law_thing : FnScope d__law_thing.N d__law_thing.ps (defScope d__law_thing.st) := ⟨rfl, rfl, rfl, by decide +kernel, rfl, by decide +kernel, by decide +kernel⟩
theorem sc__law_are_rows : FnScope d__law_are_rows.N d__law_are_rows.ps (defScope d__law_are_rows.st) := ⟨rfl, rfl, rfl, by decide +kernel, rfl, by decide +kernel, by decide +kernel⟩
theorem sc__law_bent : FnScope d__law_bent.N d__law_bent.ps (defScope d__law_bent.st) := ⟨rfl, rfl, rfl, by decide +kernel, rfl, by decide +kernel, by decide +kernel⟩
theorem sc_law : FnScope d_law.N d_law.ps (defScope d_law.st) := ⟨rfl, rfl, rfl, by decide +kernel, rfl, by decide +kernel, by decide +kernel⟩
theorem all_mk {K : PySem.W.Frag} {mg : Str → Option Value} {h : Heap} {fa : Addr} (X : K.In h) (Gn : h.Ns mainGlobals mg) (hfa : mg "law" = some (.ref fa))
    {f_is_whole : Addr} {oc_is_whole : Value} {od_is_whole an_is_whole : Option Addr} {sl_is_whole : Array (Option Value)} {kV_is_whole dc_is_whole pm_is_whole cd_is_whole ct_is_whole : Value}
    (a_is_whole : PySem.W.nsIn K mainGlobals "is_whole" = some (some (.ref f_is_whole))) (l_is_whole : K.lookup f_is_whole = some ⟨oc_is_whole, od_is_whole, .func (PySem.W.fnOf "is_whole" "is_whole" (defArgs (top 2)) (defBody (top 2)) (defScope (top 2)) .none kV_is_whole dc_is_whole pm_is_whole an_is_whole cd_is_whole ct_is_whole), sl_is_whole⟩)
    (c_is_whole : PySem.W.codeIn K cd_is_whole "is_whole" = true) (k_is_whole : PySem.W.keepIn K (.ref f_is_whole) = true)
    {f_is_row : Addr} {oc_is_row : Value} {od_is_row an_is_row : Option Addr} {sl_is_row : Array (Option Value)} {kV_is_row dc_is_row pm_is_row cd_is_row ct_is_row : Value}
    (a_is_row : PySem.W.nsIn K mainGlobals "is_row" = some (some (.ref f_is_row))) (l_is_row : K.lookup f_is_row = some ⟨oc_is_row, od_is_row, .func (PySem.W.fnOf "is_row" "is_row" (defArgs (top 3)) (defBody (top 3)) (defScope (top 3)) .none kV_is_row dc_is_row pm_is_row an_is_row cd_is_row ct_is_row), sl_is_row⟩)
    (c_is_row : PySem.W.codeIn K cd_is_row "is_row" = true) (k_is_row : PySem.W.keepIn K (.ref f_is_row) = true)
    {f_are_rows : Addr} {oc_are_rows : Value} {od_are_rows an_are_rows : Option Addr} {sl_are_rows : Array (Option Value)} {kV_are_rows dc_are_rows pm_are_rows cd_are_rows ct_are_rows : Value}
    (a_are_rows : PySem.W.nsIn K mainGlobals "are_rows" = some (some (.ref f_are_rows))) (l_are_rows : K.lookup f_are_rows = some ⟨oc_are_rows, od_are_rows, .func (PySem.W.fnOf "are_rows" "are_rows" (defArgs (top 4)) (defBody (top 4)) (defScope (top 4)) .none kV_are_rows dc_are_rows pm_are_rows an_are_rows cd_are_rows ct_are_rows), sl_are_rows⟩)
    (c_are_rows : PySem.W.codeIn K cd_are_rows "are_rows" = true) (k_are_rows : PySem.W.keepIn K (.ref f_are_rows) = true)
    {f__law_deck : Addr} {oc__law_deck : Value} {od__law_deck an__law_deck : Option Addr} {sl__law_deck : Array (Option Value)} {kV__law_deck dc__law_deck pm__law_deck cd__law_deck ct__law_deck : Value}
    (a__law_deck : PySem.W.nsIn K mainGlobals "_law_deck" = some (some (.ref f__law_deck))) (l__law_deck : K.lookup f__law_deck = some ⟨oc__law_deck, od__law_deck, .func (PySem.W.fnOf "_law_deck" "_law_deck" (defArgs (top 6)) (defBody (top 6)) (defScope (top 6)) .none kV__law_deck dc__law_deck pm__law_deck an__law_deck cd__law_deck ct__law_deck), sl__law_deck⟩)
    (c__law_deck : PySem.W.codeIn K cd__law_deck "_law_deck" = true) (k__law_deck : PySem.W.keepIn K (.ref f__law_deck) = true)
    {f__law_pick : Addr} {oc__law_pick : Value} {od__law_pick an__law_pick : Option Addr} {sl__law_pick : Array (Option Value)} {kV__law_pick dc__law_pick pm__law_pick cd__law_pick ct__law_pick : Value}
    (a__law_pick : PySem.W.nsIn K mainGlobals "_law_pick" = some (some (.ref f__law_pick))) (l__law_pick : K.lookup f__law_pick = some ⟨oc__law_pick, od__law_pick, .func (PySem.W.fnOf "_law_pick" "_law_pick" (defArgs (top 7)) (defBody (top 7)) (defScope (top 7)) .none kV__law_pick dc__law_pick pm__law_pick an__law_pick cd__law_pick ct__law_pick), sl__law_pick⟩)
    (c__law_pick : PySem.W.codeIn K cd__law_pick "_law_pick" = true) (k__law_pick : PySem.W.keepIn K (.ref f__law_pick) = true)
    {f__law_number : Addr} {oc__law_number : Value} {od__law_number an__law_number : Option Addr} {sl__law_number : Array (Option Value)} {kV__law_number dc__law_number pm__law_number cd__law_number ct__law_number : Value}
    (a__law_number : PySem.W.nsIn K mainGlobals "_law_number" = some (some (.ref f__law_number))) (l__law_number : K.lookup f__law_number = some ⟨oc__law_number, od__law_number, .func (PySem.W.fnOf "_law_number" "_law_number" (defArgs (top 8)) (defBody (top 8)) (defScope (top 8)) .none kV__law_number dc__law_number pm__law_number an__law_number cd__law_number ct__law_number), sl__law_number⟩)
    (c__law_number : PySem.W.codeIn K cd__law_number "_law_number" = true) (k__law_number : PySem.W.keepIn K (.ref f__law_number) = true)
    {f__law_rows : Addr} {oc__law_rows : Value} {od__law_rows an__law_rows : Option Addr} {sl__law_rows : Array (Option Value)} {kV__law_rows dc__law_rows pm__law_rows cd__law_rows ct__law_rows : Value}
    (a__law_rows : PySem.W.nsIn K mainGlobals "_law_rows" = some (some (.ref f__law_rows))) (l__law_rows : K.lookup f__law_rows = some ⟨oc__law_rows, od__law_rows, .func (PySem.W.fnOf "_law_rows" "_law_rows" (defArgs (top 9)) (defBody (top 9)) (defScope (top 9)) .none kV__law_rows dc__law_rows pm__law_rows an__law_rows cd__law_rows ct__law_rows), sl__law_rows⟩)
    (c__law_rows : PySem.W.codeIn K cd__law_rows "_law_rows" = true) (k__law_rows : PySem.W.keepIn K (.ref f__law_rows) = true)
    {f__law_size : Addr} {oc__law_size : Value} {od__law_size an__law_size : Option Addr} {sl__law_size : Array (Option Value)} {kV__law_size dc__law_size pm__law_size cd__law_size ct__law_size : Value}
    (a__law_size : PySem.W.nsIn K mainGlobals "_law_size" = some (some (.ref f__law_size))) (l__law_size : K.lookup f__law_size = some ⟨oc__law_size, od__law_size, .func (PySem.W.fnOf "_law_size" "_law_size" (defArgs (top 10)) (defBody (top 10)) (defScope (top 10)) .none kV__law_size dc__law_size pm__law_size an__law_size cd__law_size ct__law_size), sl__law_size⟩)
    (c__law_size : PySem.W.codeIn K cd__law_size "_law_size" = true) (k__law_size : PySem.W.keepIn K (.ref f__law_size) = true)
    {f__law_whole : Addr} {oc__law_whole : Value} {od__law_whole an__law_whole : Option Addr} {sl__law_whole : Array (Option Value)} {kV__law_whole dc__law_whole pm__law_whole cd__law_whole ct__law_whole : Value}
    (a__law_whole : PySem.W.nsIn K mainGlobals "_law_whole" = some (some (.ref f__law_whole))) (l__law_whole : K.lookup f__law_whole = some ⟨oc__law_whole, od__law_whole, .func (PySem.W.fnOf "_law_whole" "_law_whole" (defArgs (top 11)) (defBody (top 11)) (defScope (top 11)) .none kV__law_whole dc__law_whole pm__law_whole an__law_whole cd__law_whole ct__law_whole), sl__law_whole⟩)
    (c__law_whole : PySem.W.codeIn K cd__law_whole "_law_whole" = true) (k__law_whole : PySem.W.keepIn K (.ref f__law_whole) = true)
    {f__law_thing : Addr} {oc__law_thing : Value} {od__law_thing an__law_thing : Option Addr} {sl__law_thing : Array (Option Value)} {kV__law_thing dc__law_thing pm__law_thing cd__law_thing ct__law_thing : Value}
    (a__law_thing : PySem.W.nsIn K mainGlobals "_law_thing" = some (some (.ref f__law_thing))) (l__law_thing : K.lookup f__law_thing = some ⟨oc__law_thing, od__law_thing, .func (PySem.W.fnOf "_law_thing" "_law_thing" (defArgs (top 12)) (defBody (top 12)) (defScope (top 12)) .none kV__law_thing dc__law_thing pm__law_thing an__law_thing cd__law_thing ct__law_thing), sl__law_thing⟩)
    (c__law_thing : PySem.W.codeIn K cd__law_thing "_law_thing" = true) (k__law_thing : PySem.W.keepIn K (.ref f__law_thing) = true)
    {f__law_are_rows : Addr} {oc__law_are_rows : Value} {od__law_are_rows an__law_are_rows : Option Addr} {sl__law_are_rows : Array (Option Value)} {kV__law_are_rows dc__law_are_rows pm__law_are_rows cd__law_are_rows ct__law_are_rows : Value}
    (a__law_are_rows : PySem.W.nsIn K mainGlobals "_law_are_rows" = some (some (.ref f__law_are_rows))) (l__law_are_rows : K.lookup f__law_are_rows = some ⟨oc__law_are_rows, od__law_are_rows, .func (PySem.W.fnOf "_law_are_rows" "_law_are_rows" (defArgs (top 13)) (defBody (top 13)) (defScope (top 13)) .none kV__law_are_rows dc__law_are_rows pm__law_are_rows an__law_are_rows cd__law_are_rows ct__law_are_rows), sl__law_are_rows⟩)
    (c__law_are_rows : PySem.W.codeIn K cd__law_are_rows "_law_are_rows" = true) (k__law_are_rows : PySem.W.keepIn K (.ref f__law_are_rows) = true)
    {f__law_bent : Addr} {oc__law_bent : Value} {od__law_bent an__law_bent : Option Addr} {sl__law_bent : Array (Option Value)} {kV__law_bent dc__law_bent pm__law_bent cd__law_bent ct__law_bent : Value}
    (a__law_bent : PySem.W.nsIn K mainGlobals "_law_bent" = some (some (.ref f__law_bent))) (l__law_bent : K.lookup f__law_bent = some ⟨oc__law_bent, od__law_bent, .func (PySem.W.fnOf "_law_bent" "_law_bent" (defArgs (top 14)) (defBody (top 14)) (defScope (top 14)) .none kV__law_bent dc__law_bent pm__law_bent an__law_bent cd__law_bent ct__law_bent), sl__law_bent⟩)
    (c__law_bent : PySem.W.codeIn K cd__law_bent "_law_bent" = true) (k__law_bent : PySem.W.keepIn K (.ref f__law_bent) = true)
    {f_law : Addr} {oc_law : Value} {od_law an_law : Option Addr} {sl_law : Array (Option Value)} {kV_law dc_law pm_law cd_law ct_law : Value}
    (a_law : PySem.W.nsIn K mainGlobals "law" = some (some (.ref f_law))) (l_law : K.lookup f_law = some ⟨oc_law, od_law, .func (PySem.W.fnOf "law" "law" (defArgs (top 15)) (defBody (top 15)) (defScope (top 15)) .none kV_law dc_law pm_law an_law cd_law ct_law), sl_law⟩)
    (c_law : PySem.W.codeIn K cd_law "law" = true) (k_law : PySem.W.keepIn K (.ref f_law) = true)
    (z_len : PySem.W.nsIn K mainGlobals "len" = some none)
    (z_int : PySem.W.nsIn K mainGlobals "int" = some none)
    (z_abs : PySem.W.nsIn K mainGlobals "abs" = some none)
    (z_max : PySem.W.nsIn K mainGlobals "max" = some none)
    (z_min : PySem.W.nsIn K mainGlobals "min" = some none)
    (z_list : PySem.W.nsIn K mainGlobals "list" = some none)
    (z_tuple : PySem.W.nsIn K mainGlobals "tuple" = some none)
    (z_all : PySem.W.nsIn K mainGlobals "all" = some none)
    (z_any : PySem.W.nsIn K mainGlobals "any" = some none)
    (z_sum : PySem.W.nsIn K mainGlobals "sum" = some none)
    (z_isinstance : PySem.W.nsIn K mainGlobals "isinstance" = some none)
    (z_range : PySem.W.nsIn K mainGlobals "range" = some none)
    (z_zip : PySem.W.nsIn K mainGlobals "zip" = some none)
    (z_enumerate : PySem.W.nsIn K mainGlobals "enumerate" = some none)
    (z_str : PySem.W.nsIn K mainGlobals "str" = some none)
    (z_bool : PySem.W.nsIn K mainGlobals "bool" = some none)
    {t_0 : Tok} (g_0 : PySem.W.nsIn K mainGlobals "MOST" = some (some (.int 6 t_0))) :
    ∃ (G : Gb) (L : List DI) (glob : Str → Option D) (i : DI) (fd : FuncData), TxtOk K mg G L glob ∧ Fun K i.x i.x i.st fa fd ∧ FnScope i.N ["script"] (defScope i.st) ∧ (∀ (s : Shared) (u : Value), BindsTo s fd ⟨[u], []⟩ [("script", u)]) ∧
      ∀ ns : List Int, ns.length ≤ 63 → (∀ z ∈ ns, Builtin.Int.intBits z ≤ 1048576) → ∃ f μ, runFn (tb (pgOf L glob) 9) (lawFn (L.map (·.x)) i) 0 [.scr ns] [] = .ok (.bl true, f) μ := by
  have e := hfa.symm.trans (PySem.W.mg_of X Gn a_law)
  cases e
  refine ⟨⟨fun _ => none, K⟩, tab, glob, d_law, _, ⟨rfl, ?_, ?_, ?_⟩, fun_mk l_law c_law k_law, sc_law, fun s u => .of_eq rfl, run_law⟩
  · intro x hx
    have hx : x ∈ (["len", "int", "abs", "max", "min", "list", "tuple", "all", "any", "sum", "isinstance", "range", "zip", "enumerate", "str"] : List Str) := hx
    simp only [List.mem_cons, List.not_mem_nil, or_false] at hx
    rcases hx with rfl | rfl | rfl | rfl | rfl | rfl | rfl | rfl | rfl | rfl | rfl | rfl | rfl | rfl | rfl
    · exact PySem.W.mg_none_of X Gn z_len
    · exact PySem.W.mg_none_of X Gn z_int
    · exact PySem.W.mg_none_of X Gn z_abs
    · exact PySem.W.mg_none_of X Gn z_max
    · exact PySem.W.mg_none_of X Gn z_min
    · exact PySem.W.mg_none_of X Gn z_list
    · exact PySem.W.mg_none_of X Gn z_tuple
    · exact PySem.W.mg_none_of X Gn z_all
    · exact PySem.W.mg_none_of X Gn z_any
    · exact PySem.W.mg_none_of X Gn z_sum
    · exact PySem.W.mg_none_of X Gn z_isinstance
    · exact PySem.W.mg_none_of X Gn z_range
    · exact PySem.W.mg_none_of X Gn z_zip
    · exact PySem.W.mg_none_of X Gn z_enumerate
    · exact PySem.W.mg_none_of X Gn z_str
  · intro x d hd
    have hd := mem_of_lookup hd
    simp only [glb, List.mem_cons, List.not_mem_nil, or_false, Prod.mk.injEq] at hd
    rcases hd with ⟨rfl, rfl⟩ | ⟨rfl, rfl⟩ | ⟨rfl, rfl⟩ | ⟨rfl, rfl⟩ | ⟨rfl, rfl⟩ | ⟨rfl, rfl⟩
    · exact ⟨.int 6, _, .inl (PySem.W.mg_of X Gn g_0), ⟨_, rfl⟩, fun _ _ _ => .int _⟩
    · exact ⟨.ty "int", .type "int", .inr ⟨PySem.W.mg_none_of X Gn z_int, by decide +kernel, by decide⟩, rfl, fun _ _ _ => .ty _⟩
    · exact ⟨.ty "bool", .type "bool", .inr ⟨PySem.W.mg_none_of X Gn z_bool, by decide +kernel, by decide⟩, rfl, fun _ _ _ => .ty _⟩
    · exact ⟨.ty "list", .type "list", .inr ⟨PySem.W.mg_none_of X Gn z_list, by decide +kernel, by decide⟩, rfl, fun _ _ _ => .ty _⟩
    · exact ⟨.ty "str", .type "str", .inr ⟨PySem.W.mg_none_of X Gn z_str, by decide +kernel, by decide⟩, rfl, fun _ _ _ => .ty _⟩
    · exact ⟨.ty "tuple", .type "tuple", .inr ⟨PySem.W.mg_none_of X Gn z_tuple, by decide +kernel, by decide⟩, rfl, fun _ _ _ => .ty _⟩
  · exact all_cons (def_mk X Gn a_is_whole l_is_whole c_is_whole k_is_whole (fun _ _ _ _ _ _ us hl => match us, hl with | [_], _ => rfl) sc_is_whole) <| all_cons (def_mk X Gn a_is_row l_is_row c_is_row k_is_row (fun _ _ _ _ _ _ us hl => match us, hl with | [_], _ => rfl) sc_is_row) <| all_cons (def_mk X Gn a_are_rows l_are_rows c_are_rows k_are_rows (fun _ _ _ _ _ _ us hl => match us, hl with | [_], _ => rfl) sc_are_rows) <| all_cons (def_mk X Gn a__law_deck l__law_deck c__law_deck k__law_deck (fun _ _ _ _ _ _ us hl => match us, hl with | [_, _], _ => rfl) sc__law_deck) <| all_cons (def_mk X Gn a__law_pick l__law_pick c__law_pick k__law_pick (fun _ _ _ _ _ _ us hl => match us, hl with | [_, _], _ => rfl) sc__law_pick) <| all_cons (def_mk X Gn a__law_number l__law_number c__law_number k__law_number (fun _ _ _ _ _ _ us hl => match us, hl with | [_, _], _ => rfl) sc__law_number) <| all_cons (def_mk X Gn a__law_rows l__law_rows c__law_rows k__law_rows (fun _ _ _ _ _ _ us hl => match us, hl with | [_, _, _], _ => rfl) sc__law_rows) <| all_cons (def_mk X Gn a__law_size l__law_size c__law_size k__law_size (fun _ _ _ _ _ _ us hl => match us, hl with | [_], _ => rfl) sc__law_size) <| all_cons (def_mk X Gn a__law_whole l__law_whole c__law_whole k__law_whole (fun _ _ _ _ _ _ us hl => match us, hl with | [_], _ => rfl) sc__law_whole) <| all_cons (def_mk X Gn a__law_thing l__law_thing c__law_thing k__law_thing (fun _ _ _ _ _ _ us hl => match us, hl with | [_, _], _ => rfl) sc__law_thing) <| all_cons (def_mk X Gn a__law_are_rows l__law_are_rows c__law_are_rows k__law_are_rows (fun _ _ _ _ _ _ us hl => match us, hl with | [_], _ => rfl) sc__law_are_rows) <| all_cons (def_mk X Gn a__law_bent l__law_bent c__law_bent k__law_bent (fun _ _ _ _ _ _ us hl => match us, hl with | [_, _], _ => rfl) sc__law_bent) <| all_nil
end Law
open PySem PySem.W PyProof.Rows in
set_option maxRecDepth 100000 in
set_option maxHeartbeats 0 in
theorem PySem.Challenge.cw_oneworth_k01_rows_holds : PySem.Challenge.rw_oneworth_k01_rows.Holds := by
  w_on; o_law; k_head; (case hw => w_witness2)
  k_fill
  refine VM.walk_vm (l := PySem.Challenge.rw_oneworth_k01_rows) (n := 63) (k := 9) (x := "script") rfl (by decide) rfl ⟨rfl, by decide, by decide⟩ (fun w h Y => PySem.W.kIn_of Y) ?F
  case F =>
    intro w mg fa h KX G hmg
    refine' Law.all_mk KX G hmg ?a_is_whole ?l_is_whole ?c_is_whole ?k_is_whole ?a_is_row ?l_is_row ?c_is_row ?k_is_row ?a_are_rows ?l_are_rows ?c_are_rows ?k_are_rows ?a__law_deck ?l__law_deck ?c__law_deck ?k__law_deck ?a__law_pick ?l__law_pick ?c__law_pick ?k__law_pick ?a__law_number ?l__law_number ?c__law_number ?k__law_number ?a__law_rows ?l__law_rows ?c__law_rows ?k__law_rows ?a__law_size ?l__law_size ?c__law_size ?k__law_size ?a__law_whole ?l__law_whole ?c__law_whole ?k__law_whole ?a__law_thing ?l__law_thing ?c__law_thing ?k__law_thing ?a__law_are_rows ?l__law_are_rows ?c__law_are_rows ?k__law_are_rows ?a__law_bent ?l__law_bent ?c__law_bent ?k__law_bent ?a_law ?l_law ?c_law ?k_law ?z_len ?z_int ?z_abs ?z_max ?z_min ?z_list ?z_tuple ?z_all ?z_any ?z_sum ?z_isinstance ?z_range ?z_zip ?z_enumerate ?z_str ?z_bool ?g_0
    (case a_is_whole => k_is)
    (case l_is_whole => k_is)
    (case c_is_whole => k_is)
    (case k_is_whole => k_is)
    (case a_is_row => k_is)
    (case l_is_row => k_is)
    (case c_is_row => k_is)
    (case k_is_row => k_is)
    (case a_are_rows => k_is)
    (case l_are_rows => k_is)
    (case c_are_rows => k_is)
    (case k_are_rows => k_is)
    (case a__law_deck => k_is)
    (case l__law_deck => k_is)
    (case c__law_deck => k_is)
    (case k__law_deck => k_is)
    (case a__law_pick => k_is)
    (case l__law_pick => k_is)
    (case c__law_pick => k_is)
    (case k__law_pick => k_is)
    (case a__law_number => k_is)
    (case l__law_number => k_is)
    (case c__law_number => k_is)
    (case k__law_number => k_is)
    (case a__law_rows => k_is)
    (case l__law_rows => k_is)
    (case c__law_rows => k_is)
    (case k__law_rows => k_is)
    (case a__law_size => k_is)
    (case l__law_size => k_is)
    (case c__law_size => k_is)
    (case k__law_size => k_is)
    (case a__law_whole => k_is)
    (case l__law_whole => k_is)
    (case c__law_whole => k_is)
    (case k__law_whole => k_is)
    (case a__law_thing => k_is)
    (case l__law_thing => k_is)
    (case c__law_thing => k_is)
    (case k__law_thing => k_is)
    (case a__law_are_rows => k_is)
    (case l__law_are_rows => k_is)
    (case c__law_are_rows => k_is)
    (case k__law_are_rows => k_is)
    (case a__law_bent => k_is)
    (case l__law_bent => k_is)
    (case c__law_bent => k_is)
    (case k__law_bent => k_is)
    (case a_law => k_is)
    (case l_law => k_is)
    (case c_law => k_is)
    (case k_law => k_is)
    (case z_len => k_is)
    (case z_int => k_is)
    (case z_abs => k_is)
    (case z_max => k_is)
    (case z_min => k_is)
    (case z_list => k_is)
    (case z_tuple => k_is)
    (case z_all => k_is)
    (case z_any => k_is)
    (case z_sum => k_is)
    (case z_isinstance => k_is)
    (case z_range => k_is)
    (case z_zip => k_is)
    (case z_enumerate => k_is)
    (case z_str => k_is)
    (case z_bool => k_is)
    (case g_0 => k_is)
#print axioms PySem.Challenge.cw_oneworth_k01_rows_holds